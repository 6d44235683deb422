import PyProof.Rows.All
import HandS.ForMost
import HandS.ForExc
import HandS.IsInst
import HandS.Style
import HandS.TupAny
import HandS.Nested
import HandS.TupLe
import HandS.SortInts
import HandS.More
import HandS.Walk
import HandS.Zip
import KE.KDictPairs
import HandS.Call
import PyProof.TwoTypesSub
import HandS.Deep
import HandS.RaiseMore
import KE.GoesEnum
import HandS.Iter
import HandS.DictTup
import KE.KDictCopyH
import HandS.NoneIn
import KE.KIndexOf
import HandS.ForSpec
import HandS.ExcIs
import HandS.ExcField
import HandS.CallLocal
import KE.KExcIs
import PyProof.EqAt
import PyProof.EqKinds
import PyProof.TupleCall
import Open.SpecLaws
import KE.OsGo
import HandS.SetFor
import HandS.Strs
import HandS.TupSets
import HandS.SortRule
import KE.KSortTupAny
import HandS.SetKeys
import HandS.JoinGen
import HandS.Codes
import HandS.Lambda
import HandS.EndTab
import PySem.Challenge.RW_manytongues_k26_keys_that_go_and_move
section
set_option Elab.async false
set_option linter.all false
set_option maxRecDepth 100000
/-! MtA: plain data, the small language, its evaluator. -/
namespace MT

/-- a key of a dict: an int or a text -/
inductive Ky where
  | i (n : Int) | s (x : List Nat)
  deriving DecidableEq
/-- plain data -/
inductive D where
  | non | bl (b : Bool) | int (i : Int) | str (s : List Nat)
  | tup (xs : List D) | lst (xs : List D)
  | dk (ks : List Ky) (vs : List D)
  | dt (ks : List (List Ky)) (vs : List D)
  | scr (ns : List Int)
  | adr (n : Nat) (x : Option (Nat × List Nat))
  deriving Inhabited

mutual
def D.decEq : (a b : D) → Decidable (a = b)
  | .non, .non => isTrue rfl
  | .bl a, .bl b => if h : a = b then isTrue (by rw [h]) else isFalse (fun e => h (by injection e))
  | .int a, .int b => if h : a = b then isTrue (by rw [h]) else isFalse (fun e => h (by injection e))
  | .str a, .str b => if h : a = b then isTrue (by rw [h]) else isFalse (fun e => h (by injection e))
  | .tup a, .tup b => match D.decEqs a b with
    | isTrue h => isTrue (by rw [h])
    | isFalse h => isFalse (fun e => h (by injection e))
  | .lst a, .lst b => match D.decEqs a b with
    | isTrue h => isTrue (by rw [h])
    | isFalse h => isFalse (fun e => h (by injection e))
  | .dk k a, .dk l b => if hk : k = l then (match D.decEqs a b with
    | isTrue h => isTrue (by rw [h, hk])
    | isFalse h => isFalse (fun e => h (by injection e))) else isFalse (fun e => hk (by injection e))
  | .adr a x, .adr b y => if h : a = b then (if h2 : x = y then isTrue (by rw [h, h2]) else isFalse (fun e => h2 (by injection e))) else isFalse (fun e => h (by injection e))
  | .scr a, .scr b => if h : a = b then isTrue (by rw [h]) else isFalse (fun e => h (by injection e))
  | .dt k a, .dt l b => if hk : k = l then (match D.decEqs a b with
    | isTrue h => isTrue (by rw [h, hk])
    | isFalse h => isFalse (fun e => h (by injection e))) else isFalse (fun e => hk (by injection e))
  | .non, .bl _ => isFalse nofun | .non, .int _ => isFalse nofun | .non, .str _ => isFalse nofun | .non, .tup _ => isFalse nofun | .non, .lst _ => isFalse nofun | .non, .dk _ _ => isFalse nofun | .non, .dt _ _ => isFalse nofun
  | .bl _, .non => isFalse nofun | .bl _, .int _ => isFalse nofun | .bl _, .str _ => isFalse nofun | .bl _, .tup _ => isFalse nofun | .bl _, .lst _ => isFalse nofun | .bl _, .dk _ _ => isFalse nofun | .bl _, .dt _ _ => isFalse nofun
  | .int _, .non => isFalse nofun | .int _, .bl _ => isFalse nofun | .int _, .str _ => isFalse nofun | .int _, .tup _ => isFalse nofun | .int _, .lst _ => isFalse nofun | .int _, .dk _ _ => isFalse nofun | .int _, .dt _ _ => isFalse nofun
  | .str _, .non => isFalse nofun | .str _, .bl _ => isFalse nofun | .str _, .int _ => isFalse nofun | .str _, .tup _ => isFalse nofun | .str _, .lst _ => isFalse nofun | .str _, .dk _ _ => isFalse nofun | .str _, .dt _ _ => isFalse nofun
  | .tup _, .non => isFalse nofun | .tup _, .bl _ => isFalse nofun | .tup _, .int _ => isFalse nofun | .tup _, .str _ => isFalse nofun | .tup _, .lst _ => isFalse nofun | .tup _, .dk _ _ => isFalse nofun | .tup _, .dt _ _ => isFalse nofun
  | .lst _, .non => isFalse nofun | .lst _, .bl _ => isFalse nofun | .lst _, .int _ => isFalse nofun | .lst _, .str _ => isFalse nofun | .lst _, .tup _ => isFalse nofun | .lst _, .dk _ _ => isFalse nofun | .lst _, .dt _ _ => isFalse nofun
  | .dk _ _, .non => isFalse nofun | .dk _ _, .bl _ => isFalse nofun | .dk _ _, .int _ => isFalse nofun | .dk _ _, .str _ => isFalse nofun | .dk _ _, .tup _ => isFalse nofun | .dk _ _, .lst _ => isFalse nofun | .dk _ _, .dt _ _ => isFalse nofun
  | .dt _ _, .non => isFalse nofun | .dt _ _, .bl _ => isFalse nofun | .dt _ _, .int _ => isFalse nofun | .dt _ _, .str _ => isFalse nofun | .dt _ _, .tup _ => isFalse nofun | .dt _ _, .lst _ => isFalse nofun | .dt _ _, .dk _ _ => isFalse nofun
  | .non, .scr _ => isFalse nofun | .scr _, .non => isFalse nofun | .bl _, .scr _ => isFalse nofun | .scr _, .bl _ => isFalse nofun | .int _, .scr _ => isFalse nofun | .scr _, .int _ => isFalse nofun | .str _, .scr _ => isFalse nofun | .scr _, .str _ => isFalse nofun | .tup _, .scr _ => isFalse nofun | .scr _, .tup _ => isFalse nofun | .lst _, .scr _ => isFalse nofun | .scr _, .lst _ => isFalse nofun | .dk _ _, .scr _ => isFalse nofun | .scr _, .dk _ _ => isFalse nofun | .dt _ _, .scr _ => isFalse nofun | .scr _, .dt _ _ => isFalse nofun
  | .non, .adr _ _ => isFalse nofun | .adr _ _, .non => isFalse nofun | .bl _, .adr _ _ => isFalse nofun | .adr _ _, .bl _ => isFalse nofun | .int _, .adr _ _ => isFalse nofun | .adr _ _, .int _ => isFalse nofun | .str _, .adr _ _ => isFalse nofun | .adr _ _, .str _ => isFalse nofun | .tup _, .adr _ _ => isFalse nofun | .adr _ _, .tup _ => isFalse nofun | .lst _, .adr _ _ => isFalse nofun | .adr _ _, .lst _ => isFalse nofun | .dk _ _, .adr _ _ => isFalse nofun | .adr _ _, .dk _ _ => isFalse nofun | .dt _ _, .adr _ _ => isFalse nofun | .adr _ _, .dt _ _ => isFalse nofun | .scr _, .adr _ _ => isFalse nofun | .adr _ _, .scr _ => isFalse nofun
def D.decEqs : (a b : List D) → Decidable (a = b)
  | [], [] => isTrue rfl
  | [], _ :: _ => isFalse nofun
  | _ :: _, [] => isFalse nofun
  | a :: r, b :: q => match D.decEq a b with
    | isTrue h => (match D.decEqs r q with
      | isTrue h2 => isTrue (by rw [h, h2])
      | isFalse h2 => isFalse (fun e => h2 (by injection e)))
    | isFalse h => isFalse (fun e => h (by injection e))
end
instance : DecidableEq D := D.decEq

/-- an exception: which class, which name it bears -/
structure Xc where
  cls : Nat
  arg : Option D
inductive R (α : Type) where
  | ok (a : α) | exc (x : Xc) | no
@[inline] def R.bind {α β : Type} : R α → (α → R β) → R β
  | .ok a, f => f a
  | .exc x, _ => .exc x
  | .no, _ => .no
instance : Monad R where
  pure := .ok
  bind := R.bind
@[simp] theorem ok_bind {α β : Type} (a : α) (f : α → R β) : (R.ok a >>= f) = f a := by
  have h : f a = (R.ok a >>= f) := rfl
  exact h.symm
@[simp] theorem no_bind {α β : Type} (f : α → R β) : ((R.no : R α) >>= f) = .no := rfl
@[simp] theorem exc_bind {α β : Type} (x : Xc) (f : α → R β) : ((R.exc x : R α) >>= f) = .exc x := rfl
@[simp] theorem pure_ok {α : Type} (a : α) : (pure a : R α) = .ok a := rfl
theorem bind_assoc' {α β γ : Type} (m : R α) (f : α → R β) (g : β → R γ) : (m >>= f >>= g) = (m >>= fun a => f a >>= g) := by cases m <;> rfl
def R.guard (b : Bool) : R Unit := if b then .ok () else .no
@[simp] theorem guard_t : R.guard true = .ok () := rfl

/-- the most items of anything -/
def LIM : Nat := 16777216

mutual
def D.depth : D → Nat
  | .tup xs => D.depths xs + 1
  | .lst xs => D.depths xs + 1
  | .dk _ vs => D.depths vs + 1
  | .dt _ vs => D.depths vs + 1
  | _ => 0
def D.depths : List D → Nat
  | [] => 0
  | x :: r => max (D.depth x) (D.depths r)
end
mutual
/-- data without dicts -/
def D.flatD : D → Bool
  | .tup xs => D.flatDs xs
  | .lst xs => D.flatDs xs
  | .dk _ _ => false
  | .dt _ _ => false
  | .scr _ => false
  | .adr _ _ => false
  | _ => true
def D.flatDs : List D → Bool
  | [] => true
  | x :: r => D.flatD x && D.flatDs r
end
def b2i (b : Bool) : Int := if b then 1 else 0
mutual
/-- python's == -/
def eqD : D → D → Bool
  | .non, .non => true
  | .bl a, .bl b => a == b
  | .bl a, .int j => b2i a == j
  | .int i, .bl b => i == b2i b
  | .int i, .int j => i == j
  | .str a, .str b => decide (a = b)
  | .tup a, .tup b => eqDs a b
  | .lst a, .lst b => eqDs a b
  | _, _ => false
def eqDs : List D → List D → Bool
  | [], [] => true
  | x :: r, y :: q => eqD x y && eqDs r q
  | _, _ => false
end
mutual
/-- no list, no dict within -/
def D.pure : D → Bool
  | .tup xs => D.pures xs
  | .lst _ => false
  | .dk _ _ => false
  | .dt _ _ => false
  | .scr _ => false
  | .adr _ _ => false
  | _ => true
def D.pures : List D → Bool
  | [] => true
  | x :: r => D.pure x && D.pures r
end

/-! ### the language -/
inductive Op2 | add | sub | mul | mod | fdiv | pow
  deriving DecidableEq
inductive Cm | eq | ne | lt | le | gt | ge | inn | nin | is | isn
  deriving DecidableEq
inductive Ty | str | int | bool | tuple | list | intstr
  deriving DecidableEq
inductive Bl | len | all | any | sorted | tuple | list | dict | int | str | abs
  deriving DecidableEq
inductive Mth | partition | join | split
  deriving DecidableEq
/-- built of one: sorted(set(a)), len(set(a)), a[::-1] -/
inductive U1 | sset | lset | rev | upper
  deriving DecidableEq
/-- built of two: min(a, b), a.index(b) -/
inductive U2 | min | tix
  deriving DecidableEq
inductive Tg | one (i : Nat) | tup (is : List Nat)
  deriving DecidableEq

mutual
inductive E where
  | var (i : Nat)
  | cst (d : D)
  | glb (x : List Nat) (d : D)
  | tup (es : List E) | lst (es : List E) | dk0 | dt0
  | bin (op : Op2) (a b : E)
  | neg (a : E)
  | cmp (op : Cm) (a b : E)
  | chn (o1 o2 : Cm) (a b c : E)
  | and (es : List E) | or (es : List E) | not (a : E)
  | ite (c a b : E)
  | idx (a b : E)
  | sli (a lo hi : E)
  | call (f : Nat) (es : List E)
  | blt (b : Bl) (a : E)
  | mth (m : Mth) (o a : E)
  | get (o k x : E)
  | isi (a : E) (t : Ty)
  | lc (own : List Nat) (tg : Tg) (it : Ir) (ifs : List E) (e : E)
  | callb (f : Nat) (es : List E)
  | u1 (u : U1) (a : E)
  | u2 (u : U2) (a b : E)
  | fnv (f : Nat)
  | calv (i : Nat) (es : List E)
  | cwc (g : Nat) (es : List E) (c : Nat) (js : List Nat)
  | calw (i : Nat) (es : List E)
inductive Ir where
  | seq (e : E) | rng1 (e : E) | rng2 (a b : E) | enm (e : E) | zip (a b : E)
end
/-- an except suite's words: a slot, a constant, isinstance(e, class b), e.name -/
inductive Ha | var (i : Nat) | cst (d : D) | isx (b : Nat) | nm
inductive He | a (x : Ha) | ors (bs : List Nat) | tup (xs : List Ha)
/-- i = e; if l == r: i = e -/
inductive Hs | asg (i : Nat) (e : He) | ifq (l : Nat) (r : He) (i : Nat) (e : He)
inductive Sm where
  | asg (i : Nat) (e : E)
  | asgT (is : List Nat) (e : E)
  | asgP (is : List Nat) (es : List E)
  | app (i : Nat) (e : E)
  | ext (i : Nat) (e : E)
  | put (i : Nat) (k e : E)
  | pop (i : Nat) (k : E)
  | ret (e : E)
  | ite (c : E) (a b : List Sm)
  | for_ (tg : Tg) (it : Ir) (body : List Sm)
  | whl (c : E) (body : List Sm)
  | forP (tg : Tg) (i : Nat) (body : List Sm)
  | bad
  | tryT (body : List Sm)
  | rai (b : Nat) (a : Option E)
  | tryA (i f : Nat) (es : List E) (j : Nat) (hs : List Hs)
  | retC (g : Nat) (e : E) (c : Nat) (js : List Nat) (i : Nat)
  | mvk (i : Nat) (k1 k2 : E)

abbrev Rho := List (Option D)
inductive Fl where
  | nx (ρ : Rho) | rt (d : D) | bk (ρ : Rho) | ct (ρ : Rho)
end MT
end
section
set_option Elab.async false
set_option linter.all false
set_option maxRecDepth 100000
/-! MtB: what the operations give, and the evaluator. -/
namespace MT

def truth : D → R Bool
  | .non => .ok false
  | .bl b => .ok b
  | .int i => .ok (i != 0)
  | .str s => .ok (!s.isEmpty)
  | .tup xs => .ok (!xs.isEmpty)
  | .lst xs => .ok (!xs.isEmpty)
  | _ => .no
def small (i : Int) : Bool := decide (i.natAbs < 2 ^ 64)
def op2D : Op2 → D → D → R D
  | .add, .int i, .int j => .ok (.int (i + j))
  | .add, .str a, .str b => if a.length + b.length ≤ LIM then .ok (.str (a ++ b)) else .no
  | .add, .lst a, .lst b => if a.length + b.length ≤ LIM then .ok (.lst (a ++ b)) else .no
  | .add, .tup a, .tup b => if a.length + b.length ≤ LIM then .ok (.tup (a ++ b)) else .no
  | .sub, .int i, .int j => .ok (.int (i - j))
  | .add, .bl b, .int j => .ok (.int (b2i b + j))
  | .sub, .bl b, .int j => .ok (.int (b2i b - j))
  | .mul, .bl b, .int j => .ok (.int (b2i b * j))
  | .sub, .int i, .bl b => .ok (.int (i - b2i b))
  | .mul, .int i, .int j => if small i || small j then .ok (.int (i * j)) else .no
  | .mul, .str s, .int n => if 0 ≤ n ∧ n ≤ 1000 ∧ s.length * n.toNat ≤ LIM then .ok (.str (List.replicate n.toNat s).flatten) else .no
  | .mul, .lst s, .int n => if 0 ≤ n ∧ n ≤ 1000 ∧ s.length * n.toNat ≤ LIM then .ok (.lst (List.replicate n.toNat s).flatten) else .no
  | .pow, .int i, .int j => if 0 ≤ j ∧ j ≤ 1000 ∧ i.natAbs < 2 ^ 64 then .ok (.int (i ^ j.toNat)) else .no
  | .mod, .int i, .int j => if 0 < j then .ok (.int (i % j)) else .no
  | .fdiv, .int i, .int j => if 0 < j ∧ j < 1073741824 then .ok (.int (i / j)) else .no
  | _, _, _ => .no
def negD : D → R D
  | .int i => .ok (.int (-i))
  | _ => .no
def D.sc : D → Bool
  | .non => true | .bl _ => true | .int _ => true | .str _ => true
  | _ => false
def eqOk (a b : D) : Bool := a.flatD && b.flatD && decide (a.depth ≤ 64) && decide (b.depth ≤ 64)
/-- texts by their codes -/
def ltS : List Nat → List Nat → Bool
  | [], [] => false
  | [], _ :: _ => true
  | _ :: _, [] => false
  | x :: r, y :: q => if x < y then true else if x = y then ltS r q else false
def D.ky : D → Option Ky
  | .int i => some (.i i)
  | .str s => some (.s s)
  | _ => none
def kys : List D → Option (List Ky)
  | [] => some []
  | d :: r => match d.ky, kys r with | some k, some l => some (k :: l) | _, _ => none
def kysT : D → Option (List Ky)
  | .tup xs => kys xs
  | _ => none
def look {α : Type} [DecidableEq α] (k : α) : List α → List D → Option D
  | a :: r, v :: q => if a = k then some v else look k r q
  | _, _ => none
def inD (x y : D) : R Bool :=
  match x, y with
  | .str [c], .str s => .ok (decide (c ∈ s))
  | x, .tup xs => if x.sc && xs.all D.sc then .ok (xs.any fun z => eqD z x) else if eqOk x (.tup xs) then .ok (xs.any fun z => eqD z x) else .no
  | x, .lst xs => if x.sc && xs.all D.sc then .ok (xs.any fun z => eqD z x) else .no
  | x, .dk ks vs => match x.ky with | some k => .ok (look k ks vs).isSome | none => .no
  | _, _ => .no
def isD : D → D → R Bool
  | .non, .non => .ok true
  | _, .non => .ok false
  | .bl a, .bl b => .ok (a == b)
  | _, _ => .no
/-- two ints and a text -/
def triO : List D → Option (Int × Int × List Nat)
  | [.int a, .int b, .str s] => some (a, b, s)
  | _ => none
def geT (p q : Int × Int × List Nat) : Bool := if p.1 = q.1 then (if p.2.1 = q.2.1 then (if p.2.2 = q.2.2 then true else !ltS p.2.2 q.2.2) else decide (q.2.1 ≤ p.2.1)) else decide (q.1 ≤ p.1)
def getO (xs ys : List D) : R Bool := match triO xs, triO ys with
  | some p, some q => .ok (geT p q)
  | _, _ => .no
def cmD : Cm → D → D → R Bool
  | .eq, a, b => if eqOk a b then .ok (eqD a b) else .no
  | .ne, a, b => if eqOk a b then .ok (!eqD a b) else .no
  | .lt, .int i, .int j => .ok (decide (i < j))
  | .le, .int i, .int j => .ok (decide (i ≤ j))
  | .gt, .int i, .int j => .ok (decide (j < i))
  | .ge, .int i, .int j => .ok (decide (j ≤ i))
  | .lt, .str a, .str b => .ok (ltS a b)
  | .le, .str a, .str b => .ok (!ltS b a)
  | .gt, .str a, .str b => .ok (ltS b a)
  | .ge, .str a, .str b => .ok (!ltS a b)
  | .ge, .tup xs, .tup ys => getO xs ys
  | .inn, a, b => inD a b
  | .nin, a, b => do let x ← inD a b; .ok (!x)
  | .is, a, b => isD a b
  | .isn, a, b => do let x ← isD a b; .ok (!x)
  | _, _, _ => .no
/-- a place, of either sign -/
def ixO (n : Nat) (i : Int) : Option Nat := if 0 ≤ i then (if i < n then some i.toNat else none) else if -(n : Int) ≤ i then some (i + n).toNat else none
def atO {α : Type} (xs : List α) (i : Int) : Option α := (ixO xs.length i).bind fun j => xs[j]?
def ofO {α : Type} : Option α → R α
  | some a => .ok a
  | none => .no
def idxD : D → D → R D
  | .tup xs, .int i => ofO (atO xs i)
  | .lst xs, .int i => ofO (atO xs i)
  | .str s, .int i => do let c ← ofO (atO s i); .ok (.str [c])
  | .scr ns, .int i => do let c ← ofO (atO ns i); .ok (.int c)
  | .dk ks vs, k => match k.ky with | some k => ofO (look k ks vs) | none => .no
  | _, _ => .no
/-- a slice's end -/
def sIx (n d : Nat) : Option Int → Nat
  | none => d
  | some v => if v < 0 then (v + n).toNat else min v.toNat n
def cut {α : Type} (xs : List α) (lo hi : Option Int) : List α := (xs.drop (sIx xs.length 0 lo)).take (sIx xs.length xs.length hi - sIx xs.length 0 lo)
def endD : D → R (Option Int)
  | .int i => .ok (some i)
  | _ => .no
def sliD (x : D) (l h : Option Int) : R D :=
  match x with
  | .tup xs => .ok (.tup (cut xs l h))
  | .lst xs => .ok (.lst (cut xs l h))
  | .str s => .ok (.str (cut s l h))
  | _ => .no
def E.abs : E → Bool
  | .cst .non => true
  | _ => false
def bools : List D → Option (List Bool)
  | [] => some []
  | .bl b :: r => (bools r).map (b :: ·)
  | _ :: _ => none
def strsO : List D → Option (List (List Nat))
  | [] => some []
  | .str s :: r => (strsO r).map (s :: ·)
  | _ :: _ => none
def intsO : List D → Option (List Int)
  | [] => some []
  | .int s :: r => (intsO r).map (s :: ·)
  | _ :: _ => none
def insS (x : List Nat) : List (List Nat) → List (List Nat)
  | [] => [x]
  | y :: r => if ltS y x then y :: insS x r else x :: y :: r
def sortS : List (List Nat) → List (List Nat)
  | [] => []
  | x :: r => insS x (sortS r)
def insI (x : Int) : List Int → List Int
  | [] => [x]
  | y :: r => if y < x then y :: insI x r else x :: y :: r
def sortI : List Int → List Int
  | [] => []
  | x :: r => insI x (sortI r)
def kyD : Ky → D
  | .i n => .int n
  | .s x => .str x
def putK {α : Type} [DecidableEq α] (k : α) (d : D) : List α → List D → List α × List D
  | a :: r, v :: q => if a = k then (a :: r, d :: q) else let p := putK k d r q; (a :: p.1, v :: p.2)
  | _, _ => ([k], [d])
def putT (k : List Ky) (ks : List (List Ky)) : List (List Ky) := if k ∈ ks then ks else ks ++ [k]
def delK {α : Type} [DecidableEq α] (k : α) : List α → List D → List α × List D
  | a :: r, v :: q => if a = k then delK k r q else (a :: (delK k r q).1, v :: (delK k r q).2)
  | _, _ => ([], [])
/-- dict of pairs -/
def dictO : List D → Option (List (Ky × D))
  | [] => some []
  | .tup [k, v] :: r => match k.ky, dictO r with | some k, some l => some ((k, v) :: l) | _, _ => none
  | _ :: _ => none
def mkD : List (Ky × D) → List Ky → List D → List Ky × List D
  | [], ks, vs => (ks, vs)
  | (k, v) :: r, ks, vs => let p := putK k v ks vs; mkD r p.1 p.2
/-- texts in a row, one after the other -/
def ltL : List (List Nat) → List (List Nat) → Bool
  | [], [] => false
  | [], _ :: _ => true
  | _ :: _, [] => false
  | x :: r, y :: q => if ltS x y then true else if x = y then ltL r q else false
def insL (x : List (List Nat)) : List (List (List Nat)) → List (List (List Nat))
  | [] => [x]
  | y :: r => if ltL y x then y :: insL x r else x :: y :: r
def sortL : List (List (List Nat)) → List (List (List Nat))
  | [] => []
  | x :: r => insL x (sortL r)
def insT (x : List (List Nat) × D) : List (List (List Nat) × D) → List (List (List Nat) × D)
  | [] => [x]
  | y :: r => if ltL y.1 x.1 then y :: insT x r else x :: y :: r
def sortT : List (List (List Nat) × D) → List (List (List Nat) × D)
  | [] => []
  | x :: r => insT x (sortT r)
def tupS (ss : List (List Nat)) : D := .tup (ss.map .str)
/-- tuples of n texts -/
def keysA (n : Nat) : List D → Option (List (List (List Nat)))
  | [] => some []
  | .tup ds :: r => match strsO ds, keysA n r with
    | some ss, some l => if ss.length = n then some (ss :: l) else none
    | _, _ => none
  | _ :: _ => none
/-- tuples led by a text -/
def keysB : List D → Option (List (List (List Nat)))
  | [] => some []
  | .tup (.str s :: _) :: r => match keysB r with
    | some l => some ([s] :: l)
    | none => none
  | _ :: _ => none
def widT : List D → Nat
  | .tup ds :: _ => ds.length
  | _ => 0
def srtB (xs : List D) : R D := match keysB xs with
  | some ks => if ks.Nodup then .ok (.lst ((sortT (ks.zip xs)).map (·.2))) else .no
  | none => .no
def srtT (xs : List D) : R D := match keysA (widT xs) xs with
  | some ks => if 0 < widT xs then .ok (.lst ((sortL ks).map tupS)) else .no
  | none => srtB xs
def srtD (ks : List (List Ky)) : R D := match ks with
  | [] => .ok (.lst [])
  | k :: r => srtT ((k :: r).map fun l => .tup (l.map kyD))
def natS (n : Nat) : List Nat := (Nat.toDigits 10 n).map Char.toNat
def intS (i : Int) : List Nat := if i < 0 then 45 :: natS i.natAbs else natS i.natAbs
def bltD : Bl → D → R D
  | .len, .tup xs => .ok (.int xs.length)
  | .len, .lst xs => .ok (.int xs.length)
  | .len, .str s => .ok (.int s.length)
  | .len, .scr s => .ok (.int s.length)
  | .all, .lst xs => do let bs ← ofO (bools xs); .ok (.bl (bs.all id))
  | .any, .lst xs => do let bs ← ofO (bools xs); .ok (.bl (bs.any id))
  | .sorted, .dk ks _ => do let ss ← ofO (strsO (ks.map kyD)); if ss.length < 64 then .ok (.lst ((sortS ss).map .str)) else .no
  | .sorted, .lst xs => match strsO xs with
    | some ss => if ss.length < 64 then .ok (.lst ((sortS ss).map .str)) else .no
    | none => srtT xs
  | .sorted, .tup xs => srtT xs
  | .sorted, .dt ks _ => srtD ks
  | .tuple, .lst xs => .ok (.tup xs)
  | .tuple, .tup xs => .ok (.tup xs)
  | .list, .lst xs => .ok (.lst xs)
  | .list, .tup xs => .ok (.lst xs)
  | .list, .dk ks _ => .ok (.lst (ks.map kyD))
  | .dict, .tup xs => do let l ← ofO (dictO xs); let p := mkD l [] []; .ok (.dk p.1 p.2)
  | .int, .bl b => .ok (.int (b2i b))
  | .int, .int i => .ok (.int i)
  | .str, .int i => if i.natAbs < 2 ^ 1900 then .ok (.str (intS i)) else .no
  | .str, .str s => .ok (.str s)
  | .abs, .int i => .ok (.int (if i < 0 then -i else i))
  | _, _ => .no
/-- sorted, of texts alone -/
def srt0 : D → R D
  | .dk ks _ => do let ss ← ofO (strsO (ks.map kyD)); if ss.length < 64 then .ok (.lst ((sortS ss).map .str)) else .no
  | .lst xs => do let ss ← ofO (strsO xs); if ss.length < 64 then .ok (.lst ((sortS ss).map .str)) else .no
  | _ => .no
/-- each once -/
def ddS {α : Type} [DecidableEq α] : List α → List α
  | [] => []
  | x :: r => if x ∈ r then ddS r else x :: ddS r
def ssetX0 (xs : List D) : R D :=
  match intsO xs with
  | some ns => if ns.length < 64 then .ok (.lst ((sortI (ddS ns)).map .int)) else .no
  | none => match strsO xs with
    | some ss => if ss.length < 64 then .ok (.lst ((sortS (ddS ss)).map .str)) else .no
    | none => .no
/-- tuples of texts, each once, sorted -/
def ssetT (xs : List D) : R D := match keysA (widT xs) xs with
  | some ks => if 0 < widT xs ∧ (ddS ks).length < 63 then .ok (.lst ((sortL (ddS ks)).map tupS)) else .no
  | none => .no
def ssetX (xs : List D) : R D :=
  match intsO xs with
  | some ns => if ns.length < 64 then .ok (.lst ((sortI (ddS ns)).map .int)) else .no
  | none => match strsO xs with
    | some ss => if ss.length < 64 then .ok (.lst ((sortS (ddS ss)).map .str)) else .no
    | none => ssetT xs
def upC (c : Nat) : Nat := if 97 ≤ c ∧ c ≤ 122 then c - 32 else c
def u1D : U1 → D → R D
  | .sset, .lst xs => ssetX xs
  | .sset, .tup xs => ssetX xs
  | .lset, .lst xs => do let ss ← ofO (strsO xs); if ss.length < 64 then .ok (.int (ddS ss).length) else .no
  | .rev, .tup xs => .ok (.tup xs.reverse)
  | .upper, .str s => if s.all (fun c => decide (c < 128)) ∧ s.length ≤ 10000 then .ok (.str (s.map upC)) else .no
  | _, _ => .no
/-- the first place of an equal -/
def tixX (x : D) : Nat → List D → Option Nat
  | _, [] => none
  | n, d :: r => if eqD d x then some n else tixX x (n + 1) r
def u2D : U2 → D → D → R D
  | .min, .int i, .int j => .ok (.int (if j < i then j else i))
  | .tix, .tup xs, x => if x.sc && xs.all D.sc then (do let n ← ofO (tixX x 0 xs); .ok (.int n)) else .no
  | _, _, _ => .no
def u2G : U2 → D → Bool
  | .min, _ => true
  | .tix, .tup _ => true
  | .tix, _ => false
def preS (S l : List Nat) : Bool := decide (l.take S.length = S)
def parS (S : List Nat) : List Nat → List Nat → Option (List Nat × List Nat)
  | _, [] => none
  | acc, c :: r => if preS S (c :: r) = true then some (acc, (c :: r).drop S.length) else parS S (acc ++ [c]) r
def splS (S : List Nat) : Nat → List Nat → List Nat → List (List Nat)
  | _, acc, [] => [acc]
  | 0, acc, c :: r => if preS S (c :: r) = true then acc :: splS S (S.length - 1) [] r else splS S 0 (acc ++ [c]) r
  | k + 1, acc, _ :: r => splS S k acc r
def joinS (S : List Nat) : List (List Nat) → List Nat
  | [] => []
  | [p] => p
  | p :: q :: r => p ++ (S ++ joinS S (q :: r))
def mthD : Mth → List Nat → D → R D
  | .partition, a, .str b => if b.isEmpty then .no else match parS b [] a with
      | some (x, y) => .ok (.tup [.str x, .str b, .str y])
      | none => .ok (.tup [.str a, .str [], .str []])
  | .split, a, .str [c] => if a.length + 2 ≤ LIM ∧ c < 256 then .ok (.lst ((splS [c] 0 [] a).map .str)) else .no
  | .join, a, .lst xs => do
      let ss ← ofO (strsO xs)
      if (ss.map (·.length)).sum + ss.length * a.length ≤ LIM then .ok (.str (joinS a ss)) else .no
  | _, _, _ => .no
def strO : D → R (List Nat)
  | .str s => .ok s
  | _ => .no
def dkO : D → R (List Ky × List D)
  | .dk ks vs => .ok (ks, vs)
  | _ => .no
def getD3 (p : List Ky × List D) (k x : D) : R D := match k.ky with | some k => .ok ((look k p.1 p.2).getD x) | none => .no
def isiD : D → Ty → R Bool
  | .str _, .str => .ok true
  | .str _, .intstr => .ok true
  | .int _, .int => .ok true
  | .int _, .intstr => .ok true
  | .bl _, .int => .ok true
  | .bl _, .bool => .ok true
  | .bl _, .intstr => .ok true
  | .tup _, .tuple => .ok true
  | .lst _, .list => .ok true
  | .dk _ _, _ => .no
  | .dt _ _, _ => .no
  | .scr _, _ => .no
  | .adr _ _, _ => .no
  | _, _ => .ok false

def setR (ρ : Rho) (i : Nat) (d : D) : Rho := ρ.set i (some d)
def setsR : Rho → List Nat → List D → R Rho
  | ρ, [], [] => .ok ρ
  | ρ, i :: r, d :: q => setsR (setR ρ i d) r q
  | _, _, _ => .no
def bindT (tg : Tg) (d : D) (ρ : Rho) : R Rho :=
  match tg with
  | .one i => .ok (setR ρ i d)
  | .tup is => match d with
    | .tup xs => setsR ρ is xs
    | _ => .no
def wipeR (ρ : Rho) : List Nat → Rho
  | [] => ρ
  | v :: vs => (wipeR ρ vs).set v none
def R.nox {α : Type} : R α → R α
  | .ok a => .ok a
  | _ => .no
@[simp] theorem nox_ok {α : Type} (a : α) : (R.ok a).nox = .ok a := rfl
def mapF (f : D → R (Option D)) : List D → R (List D)
  | [] => .ok []
  | d :: r => do
    let o ← (f d).nox
    let l ← mapF f r
    match o with
    | some x => .ok (x :: l)
    | none => .ok l
def enumF : Nat → List D → List D
  | _, [] => []
  | n, d :: r => .tup [.int n, d] :: enumF (n + 1) r
def zipF : List D → List D → List D
  | a :: r, b :: q => .tup [a, b] :: zipF r q
  | _, _ => []
def rngF (lo : Int) (n : Nat) : List D := (List.range n).map fun (k : Nat) => D.int (lo + (k : Int))
def seqD : D → R (List D)
  | .tup xs => .ok xs
  | .lst xs => .ok xs
  | .str s => .ok (s.map fun c => .str [c])
  | _ => .no
def rngD (a b : D) : R (List D) :=
  match a, b with
  | .int i, .int j => if i.natAbs < 2 ^ 62 ∧ j.natAbs < 2 ^ 62 ∧ (j - i).toNat ≤ LIM then .ok (rngF i (j - i).toNat) else .no
  | _, _ => .no
def enmD : D → R (List D)
  | .lst xs => .ok (enumF 0 xs)
  | .tup xs => .ok (enumF 0 xs)
  | _ => .no
def zipD : D → D → R (List D)
  | .tup xs, .tup ys => .ok (zipF xs ys)
  | _, _ => .no
def blO : D → R Bool
  | .bl b => .ok b
  | _ => .no
def E.isTest : E → Bool
  | .and _ => true | .or _ => true | .not _ => true
  | _ => false

/-- what a closure keeps -/
def capt (ρ : Rho) : List Nat → R (List D)
  | [] => .ok []
  | j :: r => match ρ.getD j none with
    | some d => do let l ← capt ρ r; .ok (d :: l)
    | none => .no
def pureR : R D → R D
  | .ok d => if d.pure then .ok d else .no
  | _ => .no
def dkR : R D → R D
  | .ok (.dk ks vs) => if D.pures vs then .ok (.dk ks vs) else .no
  | _ => .no
/-- arguments of which the last is a dict -/
def conA (xs : List D) : Bool := match xs with
  | [d, .dk _ vs] => d.pure && D.pures vs
  | _ => false
section
variable (F : Nat → List D → R D)
mutual
/-- an expression's value -/
def ev : E → Rho → R D
  | .var i, ρ => ofO (ρ.getD i none)
  | .cst d, _ => .ok d
  | .glb _ d, _ => .ok d
  | .tup es, ρ => do let ds ← evs es ρ; .ok (.tup ds)
  | .lst es, ρ => do let ds ← evs es ρ; .ok (.lst ds)
  | .dk0, _ => .ok (.dk [] [])
  | .dt0, _ => .ok (.dt [] [])
  | .bin op a b, ρ => do let x ← ev a ρ; let y ← ev b ρ; op2D op x y
  | .neg a, ρ => do let x ← ev a ρ; negD x
  | .cmp op a b, ρ => do let x ← ev a ρ; let y ← ev b ρ; let c ← cmD op x y; .ok (.bl c)
  | .chn o1 o2 a b c, ρ => do
      let x ← ev a ρ
      let y ← ev b ρ
      let k ← cmD o1 x y
      if k then (do let z ← ev c ρ; let q ← cmD o2 y z; .ok (.bl q)) else .ok (.bl false)
  | .and es, ρ => do let b ← evAnd es ρ; .ok (.bl b)
  | .or es, ρ => do let b ← evOr es ρ; .ok (.bl b)
  | .not a, ρ => do let x ← ev a ρ; let b ← blO x; .ok (.bl (!b))
  | .ite c a b, ρ => do let k ← tst c ρ; if k then ev a ρ else ev b ρ
  | .idx a b, ρ => do let x ← ev a ρ; let y ← ev b ρ; idxD x y
  | .sli a lo hi, ρ => do
      let x ← ev a ρ
      let l ← (if lo.abs then .ok none else (do let y ← ev lo ρ; endD y))
      let h ← (if hi.abs then .ok none else (do let y ← ev hi ρ; endD y))
      sliD x l h
  | .call f es, ρ => do let ds ← evs es ρ; F f ds
  | .blt b a, ρ => do let x ← ev a ρ; bltD b x
  | .mth m o a, ρ => do let x ← ev o ρ; let s ← strO x; let y ← ev a ρ; mthD m s y
  | .get o k x, ρ => do let a ← ev o ρ; let p ← dkO a; let b ← ev k ρ; let c ← ev x ρ; getD3 p b c
  | .isi a t, ρ => do let x ← ev a ρ; let b ← isiD x t; .ok (.bl b)
  | .lc own tg it ifs e, ρ => do
      let ds ← its it ρ
      let rs ← mapF (fun d => do
        let ρ' ← bindT tg d (wipeR ρ own)
        let b ← tsts ifs ρ'
        if b then (do let x ← ev e ρ'; .ok (some x)) else .ok none) ds
      .ok (.lst rs)
  | .callb f es, ρ => do let ds ← evs es ρ; let d ← F f ds; if d.pure then .ok d else .no
  | .u1 u a, ρ => do let x ← ev a ρ; u1D u x
  | .u2 u a b, ρ => do let x ← ev a ρ; let _ ← R.guard (u2G u x); let y ← ev b ρ; u2D u x y
  | .fnv f, _ => if f < 1000000 then .ok (.adr f none) else .no
  | .calv i es, ρ => match ρ.getD i none with
      | some (.adr f _) => if f < 1000000 then (match evs es ρ with | .ok ds => F f ds | _ => .no) else .no
      | _ => .no
  | .cwc g es c js, ρ => match evs es ρ, capt ρ js with
      | .ok ds, .ok cs => if D.pures ds && D.pures cs then pureR (F (2000000 + g) (ds ++ [.dt [] (.int c :: cs)])) else .no
      | _, _ => .no
  | .calw i es, ρ => match ρ.getD i none with
      | some (.adr f _) => if f = 999999 then (match evs es ρ with | .ok ds => F 1999998 ds | _ => .no) else .no
      | _ => .no
def evs : List E → Rho → R (List D)
  | [], _ => .ok []
  | e :: r, ρ => do let d ← ev e ρ; let l ← evs r ρ; .ok (d :: l)
/-- and, or of truths, as values -/
def evAnd : List E → Rho → R Bool
  | [], _ => .no
  | [e], ρ => do let x ← ev e ρ; blO x
  | e :: e' :: r, ρ => do let x ← ev e ρ; let b ← blO x; if b then evAnd (e' :: r) ρ else .ok false
def evOr : List E → Rho → R Bool
  | [], _ => .no
  | [e], ρ => do let x ← ev e ρ; blO x
  | e :: e' :: r, ρ => do let x ← ev e ρ; let b ← blO x; if b then .ok true else evOr (e' :: r) ρ
/-- a test -/
def tst : E → Rho → R Bool
  | .not a, ρ => do let b ← tst a ρ; .ok (!b)
  | .and es, ρ => tAnd es ρ
  | .or es, ρ => tOr es ρ
  | .var i, ρ => do let x ← ofO (ρ.getD i none); truth x
  | .cst d, _ => truth d
  | .glb _ d, _ => truth d
  | .cmp op a b, ρ => do let x ← ev a ρ; let y ← ev b ρ; cmD op x y
  | .chn o1 o2 a b c, ρ => do
      let x ← ev a ρ
      let y ← ev b ρ
      let k ← cmD o1 x y
      if k then (do let z ← ev c ρ; cmD o2 y z) else .ok false
  | .call f es, ρ => do let ds ← evs es ρ; let x ← F f ds; truth x
  | .blt b a, ρ => do let y ← ev a ρ; let x ← bltD b y; truth x
  | .isi a t, ρ => do let x ← ev a ρ; isiD x t
  | .lc own tg it ifs e, ρ => do
      let ds ← its it ρ
      let rs ← mapF (fun d => do
        let ρ' ← bindT tg d (wipeR ρ own)
        let b ← tsts ifs ρ'
        if b then (do let x ← ev e ρ'; .ok (some x)) else .ok none) ds
      .ok (!rs.isEmpty)
  | _, _ => .no
def tAnd : List E → Rho → R Bool
  | [], _ => .no
  | [e], ρ => tst e ρ
  | e :: e' :: r, ρ => do let b ← tst e ρ; if b then tAnd (e' :: r) ρ else .ok false
def tOr : List E → Rho → R Bool
  | [], _ => .no
  | [e], ρ => tst e ρ
  | e :: e' :: r, ρ => do let b ← tst e ρ; if b then .ok true else tOr (e' :: r) ρ
def tsts : List E → Rho → R Bool
  | [], _ => .ok true
  | e :: r, ρ => do let b ← tst e ρ; if b then tsts r ρ else .ok false
def its : Ir → Rho → R (List D)
  | .seq e, ρ => do let x ← ev e ρ; seqD x
  | .rng1 e, ρ => do let x ← ev e ρ; rngD (.int 0) x
  | .rng2 a b, ρ => do let x ← ev a ρ; let y ← ev b ρ; rngD x y
  | .enm e, ρ => do let x ← ev e ρ; enmD x
  | .zip a b, ρ => do let x ← ev a ρ; let y ← ev b ρ; zipD x y
end

/-- the turns of a for -/
def forF (bd : Rho → R Fl) (tg : Tg) : List D → Rho → R Fl
  | [], ρ => .ok (.nx ρ)
  | d :: r, ρ => do
    let ρ1 ← bindT tg d ρ
    let f ← bd ρ1
    match f with
    | .nx ρ2 => forF bd tg r ρ2
    | .ct ρ2 => forF bd tg r ρ2
    | .bk ρ2 => .ok (.nx ρ2)
    | .rt x => .ok (.rt x)
/-- the turns of a while -/
def whlF (c : Rho → R Bool) (bd : Rho → R Fl) : Nat → Rho → R Fl
  | 0, _ => .no
  | n + 1, ρ => do
    let b ← c ρ
    if b then (do
      let f ← bd ρ
      match f with
      | .nx ρ2 => whlF c bd n ρ2
      | .ct ρ2 => whlF c bd n ρ2
      | .bk ρ2 => .ok (.nx ρ2)
      | .rt x => .ok (.rt x)) else .ok (.nx ρ)
def D.mut : D → Bool
  | .lst _ => true | .dk _ _ => true | .dt _ _ => true
  | _ => false
/-- the own errors' classes: TongueError, NoValue, NoText, NoKey, Taken, NoShelf, then ValueError -/
def xNm : Nat → List Nat
  | 0 => [84, 111, 110, 103, 117, 101, 69, 114, 114, 111, 114]
  | 1 => [78, 111, 86, 97, 108, 117, 101]
  | 2 => [78, 111, 84, 101, 120, 116]
  | 3 => [78, 111, 75, 101, 121]
  | 4 => [84, 97, 107, 101, 110]
  | 5 => [78, 111, 83, 104, 101, 108, 102]
  | _ => [86, 97, 108, 117, 101, 69, 114, 114, 111, 114]
def isaX (c b : Nat) : Bool := b == 0 || b == 6 || c == b
def raiD (b : Nat) (a : Option E) (ρ : Rho) : R Fl := match a with
  | none => if b = 1 then .no else .exc ⟨b, none⟩
  | some e => do
    let d ← ev F e ρ
    match d with
    | .str s => if b = 1 then .exc ⟨1, some (.str s)⟩ else .no
    | _ => .no
def evHa (x : Xc) (ρ : Rho) : Ha → R D
  | .var i => match ρ.getD i none with | some d => if d.mut then .no else .ok d | none => .no
  | .cst d => .ok d
  | .isx b => .ok (.bl (isaX x.cls b))
  | .nm => match x.arg with | some (.str s) => .ok (.str s) | _ => .no
def evHas (x : Xc) (ρ : Rho) : List Ha → R (List D)
  | [] => .ok []
  | a :: r => do let d ← evHa x ρ a; let l ← evHas x ρ r; .ok (d :: l)
def evHe (x : Xc) (ρ : Rho) : He → R D
  | .a h => evHa x ρ h
  | .ors bs => .ok (.bl (bs.any (isaX x.cls)))
  | .tup hs => do let l ← evHas x ρ hs; .ok (.tup l)
def exH (x : Xc) : Hs → Rho → R Rho
  | .asg i e, ρ => do let d ← evHe x ρ e; .ok (setR ρ i d)
  | .ifq l r i e, ρ => do
    let a ← evHa x ρ (.var l)
    let b ← evHe x ρ r
    let q ← cmD .eq a b
    if q then (do let d ← evHe x ρ e; .ok (setR ρ i d)) else .ok ρ
def exHs (x : Xc) : List Hs → Rho → R Rho
  | [], ρ => .ok ρ
  | h :: r, ρ => do let ρ' ← exH x h ρ; exHs x r ρ'
def tryD (M : List Nat) (i f : Nat) (es : List E) (j : Nat) (hs : List Hs) (ρ : Rho) : R Fl :=
  if (ρ.getD j none).isSome then .no else
  match evs F es ρ with
  | .ok ds => (match F f ds with
    | .ok d => .ok (.nx (setR ρ i d))
    | .exc x => do
      let ρ' ← exHs x hs ρ
      .ok (.nx ρ')
    | .no => .no)
  | _ => .no
variable (W : Nat) (M : List Nat)
mutual
def ex : Sm → Rho → R Fl
  | .asg i e, ρ => do let d ← ev F e ρ; if M.contains i && !d.mut then .no else .ok (.nx (setR ρ i d))
  | .asgT is e, ρ => do
      let d ← ev F e ρ
      match d with
      | .tup xs => do let ρ' ← setsR ρ is xs; .ok (.nx ρ')
      | .lst xs => do let ρ' ← setsR ρ is xs; .ok (.nx ρ')
      | _ => .no
  | .asgP is es, ρ => do
      let ds ← evs F es ρ
      let ρ' ← setsR ρ is ds
      .ok (.nx ρ')
  | .app i e, ρ =>
      match ρ.getD i none with
      | some (.lst xs) => do
        let d ← ev F e ρ
        if xs.length < LIM then .ok (.nx (setR ρ i (.lst (xs ++ [d])))) else .no
      | _ => .no
  | .ext i e, ρ =>
      match ρ.getD i none with
      | some (.lst xs) => do
        let d ← ev F e ρ
        match d with
        | .lst ys => if xs.length + ys.length ≤ LIM then .ok (.nx (setR ρ i (.lst (xs ++ ys)))) else .no
        | .tup ys => if xs.length + ys.length ≤ LIM then .ok (.nx (setR ρ i (.lst (xs ++ ys)))) else .no
        | _ => .no
      | _ => .no
  | .put i k e, ρ => do
      let d ← ev F e ρ
      match ρ.getD i none with
      | some (.dk ks vs) => do
        let x ← ev F k ρ
        match x.ky with
        | some k => if ks.length < LIM then (let p := putK k d ks vs; .ok (.nx (setR ρ i (.dk p.1 p.2)))) else .no
        | none => .no
      | some (.dt ks vs) => do
        let x ← ev F k ρ
        match kysT x with
        | some k => if ks.length < LIM ∧ d = .bl true then .ok (.nx (setR ρ i (.dt (putT k ks) ((putT k ks).map fun _ => .bl true)))) else .no
        | none => .no
      | _ => .no
  | .pop i k, ρ =>
      match ρ.getD i none with
      | some (.dk ks vs) => do
        let x ← ev F k ρ
        match x.ky with
        | some k => .ok (.nx (setR ρ i (.dk (delK k ks vs).1 (delK k ks vs).2)))
        | none => .no
      | _ => .no
  | .ret e, ρ => do let d ← ev F e ρ; .ok (.rt d)
  | .ite c a b, ρ => do let k ← tst F c ρ; if k then exs a ρ else exs b ρ
  | .for_ tg it body, ρ => do let ds ← its F it ρ; forF (exs body) tg ds ρ
  | .whl c body, ρ => whlF (tst F c) (exs body) W ρ
  | .forP tg i body, ρ => match ρ.getD i none with
      | some (.lst xs) => match xs.getLast? with
        | some (.tup ds) => forF (exs body) tg ds (setR ρ i (.lst xs.dropLast))
        | _ => .no
      | _ => .no
  | .bad, _ => .no
  | .tryT b, ρ => (exs b ρ).nox
  | .rai b a, ρ => raiD F b a ρ
  | .tryA i f es j hs, ρ => tryD F M i f es j hs ρ
  | .retC g e c js i, ρ => if (ρ.getD i none).isSome then .no else match ev F e ρ, capt ρ js with
      | .ok d, .ok cs => if d.pure && D.pures cs then (match pureR (F (2000000 + g) [d, .dt [] (.int c :: cs)]) with | .ok r => .ok (.rt r) | _ => .no) else .no
      | _, _ => .no
  | .mvk i k1 k2, ρ => match ρ.getD i none with
      | some (.dk ks vs) => do
        let y ← ev F k2 ρ
        let x ← ev F k1 ρ
        match y.ky, x.ky with
        | some y, some x => (match look y ks vs with
          | some v => if ks.length < LIM then .ok (.nx (setR ρ i (.dk (putK x v (delK y ks vs).1 (delK y ks vs).2).1 (putK x v (delK y ks vs).1 (delK y ks vs).2).2))) else .no
          | none => .no)
        | _, _ => .no
      | _ => .no
def exs : List Sm → Rho → R Fl
  | [], ρ => .ok (.nx ρ)
  | s :: r, ρ => do
    let f ← ex s ρ
    match f with
    | .nx ρ' => exs r ρ'
    | f => .ok f
end
end

/-- a def: its name, its names by slot (parameters first), how many parameters, the owning slots, whether it gives new things, its body -/
structure Fn where
  name : List Nat
  names : List (List Nat)
  ps : Nat
  M : List Nat
  fr : Bool
  body : List Sm
  mkr : Option (List Nat) := none
def runB (F : Nat → List D → R D) (W : Nat) (f : Fn) (ds : List D) : R D :=
  if ds.length = f.ps then do
    let r ← exs F W f.M f.body (ds.map some ++ List.replicate (f.names.length - f.ps) none)
    match r with
    | .rt d => .ok d
    | .nx _ => .ok .non
    | _ => .no
  else .no
/-- calls within a def that was handed a closure: 999999 is the closure's -/
def cloF (F : Nat → List D → R D) (c : Nat) (cs : List D) (g : Nat) (xs : List D) : R D := if g = 999999 then (if D.pures xs then pureR (F (3000000 + c) (xs ++ cs)) else .no) else if g = 1999998 then (if conA xs then dkR (F (4000000 + c) (xs ++ cs)) else .no) else F g xs
/-- a def that is handed a closure -/
def tkR (F : Nat → List D → R D) (T : Nat → Option Fn) (W f : Nat) (ds : List D) : R D := if f < 2000000 then .no else
  match T (f - 2000000), ds.getLast? with
  | some fn, some (.dt [] (.int c :: cs)) => runB (cloF F c.toNat cs) W fn (ds.dropLast ++ [.adr 999999 none])
  | _, _ => .no
def run (T : Nat → Option Fn) (W : Nat) : Nat → Nat → List D → R D
  | 0, _, _ => .no
  | k + 1, f, ds => match T f with
    | some fn => runB (run T W k) W fn ds
    | none => tkR (run T W k) T W f ds
end MT
end
section
set_option Elab.async false
set_option linter.all false
set_option maxRecDepth 100000
/-! MtC: how values bear data. -/
namespace MT
open PySem PySem.Spec L2

abbrev toS (s : List Nat) : Str := ⟨s.toArray⟩
def okS (s : List Nat) : Prop := s.length ≤ LIM ∧ ∀ c ∈ s, c < 0x110000
def kyV : Ky → Key
  | .i n => .inl n
  | .s x => .inr (toS x)
def okK : Ky → Prop
  | .i _ => True
  | .s x => okS x
theorem lim_eq : LIM = sizeLine := by rw [sizeLine_eq]; rfl

/-- the program, the world, the module's names: what a value may lean on besides the heap -/
class Pw where
  P : Program
  w : World
  mg : Str → Option Value
  fa : Nat → Addr
  tb : List (Addr × Str)
  sup : List (Addr × HO)
/-- no table of code objects -/
def NT (o : HO) : Prop := ∀ ps, o ≠ .tbl ps
/-- an address by its number: a def's, or (from 1000000 on) itself -/
def adOf [Pw] (n : Nat) : Addr := if 1000000 ≤ n then n - 1000000 else Pw.fa n
/-- the script: known to the object, or the module's -/
def ScrAt (K : PySem.W.Frag) (H : Hp) (a : Addr) (xs : List V) : Prop :=
  (∃ o, H a = some (.frz o (.lst xs))) ∨
    ∃ (o : Obj) (its : Array Value) (n : Nat), K.lookup a = some o ∧ o.cls = .type "list" ∧ o.dict = none ∧ o.data = .seq its n ∧ its.size ≤ sizeLine ∧ Vals xs its.toList
theorem ScrAt.sqL {K : PySem.W.Frag} {H : Hp} {a : Addr} {xs : List V} (h : ScrAt K H a xs) : SqL K H a xs := by
  rcases h with ⟨o, h⟩ | h
  · exact .inl (.inr ⟨o, h⟩)
  · exact .inr h
/-- a thing that bears no dict of its own -/
def NoD (K : PySem.W.Frag) (H : Hp) (a : Addr) : Prop := (∃ o u, H a = some (.frz o u) ∧ o.dict = none) ∨ ∃ o, K.lookup a = some o ∧ o.dict = none
/-- a dict whose keys are tuples of texts, each True: its own object -/
def DicO (P : Program) (w : World) (a : Addr) (L : List (Addr × List Key)) (h : Heap) : Prop :=
  (a == sysModules) = false ∧ ∃ o es ep, h.get? a = some o ∧ o.ExactDict ∧ o.data = .dict es ep ∧ es.toList = (L.map fun m => (m.2, m.1, Value.bool true)).map (entryOfKey (tupleKind (mixKind P w)))
def DicTO (P : Program) (w : World) (a : Addr) (L : List (Addr × List Key)) : HO := .ext fun h => DicO P w a L h
theorem dicT_new {P : Program} {w : World} {H : Hp} {h : Heap} {a : Addr} {L : List (Addr × List Key)} (R : DicO P w a L h) : ObjOk P w H h a (DicTO P w a L) := by
  have ⟨_, o, _, _, ho, _⟩ := R
  exact ⟨R, ⟨o, ho⟩, fun h1 h2 ⟨y, o, es, ep, ho, r⟩ k => ⟨y, o, es, ep, k o ho, r⟩⟩
/-- what the running code leans on: tables of code objects, a closure's objects -/
def Amb [Pw] (H : Hp) : Prop := LamX.Tabs Pw.tb H ∧ ∀ p ∈ Pw.sup, NT p.2 ∧ H p.1 = some p.2
/-- all that was tracked is as it was; tables of code objects may have grown -/
structure Same [Pw] (H H' : Hp) : Prop where
  all : ∀ b o, H b = some o → (n : NT o := by first | assumption | (intro _ z; cases z; done) | (intro _ z; unfold DicTO at z; cases z; done)) → H' b = some o
  nn : ∀ b, H' b = none → H b = none
  tab : LamX.Tabs Pw.tb H → LamX.Tabs Pw.tb H'
instance [Pw] {H H' : Hp} : CoeFun (Same H H') (fun _ => ∀ b o, H b = some o → (n : NT o := by first | assumption | (intro _ z; cases z; done) | (intro _ z; unfold DicTO at z; cases z; done)) → H' b = some o) := ⟨fun s => @Same.all _ H H' s⟩
theorem Same.of [Pw] {H H' : Hp} (h : L2.Same H H') : Same H H' := ⟨fun b o e _ => h b o e, fun b e => h.free e, fun t => t.ext h⟩
theorem Same.refl [Pw] (H : Hp) : Same H H := .of (L2.Same.refl H)
theorem Same.trans [Pw] {H H1 H2 : Hp} (a : Same H H1) (b : Same H1 H2) : Same H H2 := ⟨fun c o h n => b.all c o (a.all c o h n) n, fun c e => a.nn c (b.nn c e), fun t => b.tab (a.tab t)⟩
theorem Same.amb [Pw] {H H' : Hp} (s : Same H H') (h : Amb H) : Amb H' := ⟨s.tab h.1, fun p hp => ⟨(h.2 p hp).1, s.all _ _ (h.2 p hp).2 (h.2 p hp).1⟩⟩
theorem Same.free [Pw] {H H' : Hp} (e : Same H H') {l : Addr} (h : H' l = Option.none) : H l = Option.none := e.nn l h
theorem Same.seq [Pw] {K : PySem.W.Frag} {H H' : Hp} {a : Addr} {xs : List V} (e : Same H H') (h : SqL K H a xs) : SqL K H' a xs := by
  rcases h with (h | ⟨o, h⟩) | h
  · exact .inl (.inl (e.all _ _ h (fun _ z => nomatch z)))
  · exact .inl (.inr ⟨o, e.all _ _ h (fun _ z => nomatch z)⟩)
  · exact .inr h
/-- neither a table nor a code object -/
def NC (a : Addr) (o : HO) : Prop := NT o ∧ ∀ q, o ≠ LamX.CodeO a q
theorem nc_lst (a : Addr) (xs : List V) : NC a (.lst xs) := ⟨by first | assumption | (intro _ z; cases z; done) | (intro _ z; unfold DicTO at z; cases z; done), fun q z => by unfold LamX.CodeO at z; cases z⟩
theorem nc_dK (a : Addr) (xs : List (Key × V)) : NC a (.dK xs) := ⟨by first | assumption | (intro _ z; cases z; done) | (intro _ z; unfold DicTO at z; cases z; done), fun q z => by unfold LamX.CodeO at z; cases z⟩
theorem nc_dic (P : Program) (w : World) (a : Addr) (L : List (Addr × List Key)) : NC a (DicTO P w a L) := ⟨by first | assumption | (intro _ z; cases z; done) | (intro _ z; unfold DicTO at z; cases z; done), fun q z => by
  unfold DicTO LamX.CodeO at z
  injection z with z
  have ob : ∃ (h : Heap) (o : Obj) (vs : Array Value) (t : Tok), h.get? a = some o ∧ o.data = .fields vs ∧ vs[1]? = some (.str q t) := by
    refine ⟨⟨(Array.replicate a ⟨.none, none, .plain, #[]⟩).push ⟨.none, none, .fields #[.none, .str q default], #[]⟩, {}⟩, ⟨.none, none, .fields #[.none, .str q default], #[]⟩, #[.none, .str q default], default, ?_, rfl, rfl⟩
    have e : (((Array.replicate a ⟨.none, none, .plain, #[]⟩).push ⟨.none, none, .fields #[.none, .str q default], #[]⟩ : Array Obj))[a]? = some ⟨.none, none, .fields #[.none, .str q default], #[]⟩ := by
      have := Array.getElem?_push_size (xs := Array.replicate a (⟨.none, none, .plain, #[]⟩ : Obj)) (x := ⟨.none, none, .fields #[.none, .str q default], #[]⟩)
      rwa [Array.size_replicate] at this
    unfold Heap.get?
    rw [e]
  obtain ⟨h, o, vs, t, e1, e2, e3⟩ := ob
  have q2 := congrFun z h
  have : DicO P w a L h := by rw [q2]; exact ⟨o, vs, t, e1, e2, e3⟩
  obtain ⟨_, o', es, ep, f1, _, f2, _⟩ := this
  rw [e1] at f1
  cases f1
  rw [e2] at f2
  cases f2⟩
theorem tabs_upd {T : List (Addr × Str)} {H : Hp} {a : Addr} {o o' : HO} (t : LamX.Tabs T H) (h : H a = some o) (n : NC a o) : LamX.Tabs T (upd H a o') := fun p hp => by
  obtain ⟨ps, h1, h2, h3⟩ := t p hp
  have ne : p.1 ≠ a := fun z => by rw [z, h] at h1; exact n.1 ps (Option.some.inj h1)
  refine ⟨ps, by rw [upd_ne ne]; exact h1, h2, fun pos cv hc => ?_⟩
  obtain ⟨c, e1, e2⟩ := h3 pos cv hc
  have nc : c ≠ a := fun z => by rw [z, h] at e2; exact n.2 _ (Option.some.inj e2)
  exact ⟨c, e1, by rw [upd_ne nc]; exact e2⟩
theorem Same.updO [Pw] {H1 H5 : Hp} {a : Addr} {o o' : HO} (s : Same H1 H5) (h1 : H1 a = none) (h5 : H5 a = some o) (n : NC a o) : Same H1 (upd H5 a o') :=
  ⟨fun b x e nt => by rw [upd_ne (ne_of_none e h1)]; exact s.all b x e nt, fun b e => s.nn b (NdefX.upd_none e), fun t => tabs_upd (s.tab t) h5 n⟩
section
variable [Pw] (K : PySem.W.Frag) (H : Hp) (O : Addr → Prop)
mutual
def Rp : D → V → Prop
  | .non, v => v = .non
  | .bl b, v => v = .bl b
  | .int i, v => v = .int i
  | .str s, v => v = .str (toS s) ∧ okS s
  | .tup ds, v => ∃ a vs, v = .ref a ∧ SqT K H a vs ∧ ds.length ≤ LIM ∧ Rps ds vs ∧ NoD K H a
  | .lst ds, v => ∃ a vs, v = .ref a ∧ ¬ O a ∧ H a = some (.lst vs) ∧ ds.length ≤ LIM ∧ Rps ds vs
  | .dk ks ds, v => ∃ a kvs, v = .ref a ∧ ¬ O a ∧ H a = some (.dK kvs) ∧ kvs.map (·.1) = ks.map kyV ∧ ks.length ≤ LIM ∧ (∀ k ∈ ks, okK k) ∧ ks.Nodup ∧ Rps ds (kvs.map (·.2))
  | .dt ks ds, v => ∃ a L, v = .ref a ∧ ¬ O a ∧ H a = some (DicTO Pw.P Pw.w a L) ∧ L.map (·.2) = ks.map (·.map kyV) ∧ ds = ks.map (fun _ => D.bl true) ∧ ks.length ≤ LIM ∧ (∀ l ∈ ks, ∀ k ∈ l, okK k) ∧ ks.Nodup ∧ ∀ m ∈ L, SqT K H m.1 (m.2.map kV) ∧ NoD K H m.1
  | .scr ns, v => ∃ a, v = .ref a ∧ (ScrAt K H a (ns.map V.int) ∨ (¬ O a ∧ H a = some (.lst (ns.map V.int)))) ∧ ns.length ≤ LIM
  | .adr n x, v => v = .ref (adOf n) ∧ ∀ p, x = some p → ¬ O p.1 ∧ H p.1 = some (.xd [(("name" : Str), V.str (toS p.2))])
def Rps : List D → List V → Prop
  | [], [] => True
  | d :: r, v :: q => Rp d v ∧ Rps r q
  | _, _ => False
end
/-- borrowed: the thing itself may be owned -/
def Rb : D → V → Prop
  | .lst ds, v => ∃ a vs, v = .ref a ∧ H a = some (.lst vs) ∧ ds.length ≤ LIM ∧ Rps K H O ds vs
  | .dk ks ds, v => ∃ a kvs, v = .ref a ∧ H a = some (.dK kvs) ∧ kvs.map (·.1) = ks.map kyV ∧ ks.length ≤ LIM ∧ (∀ k ∈ ks, okK k) ∧ ks.Nodup ∧ Rps K H O ds (kvs.map (·.2))
  | .dt ks ds, v => ∃ a L, v = .ref a ∧ H a = some (DicTO Pw.P Pw.w a L) ∧ L.map (·.2) = ks.map (·.map kyV) ∧ ds = ks.map (fun _ => D.bl true) ∧ ks.length ≤ LIM ∧ (∀ l ∈ ks, ∀ k ∈ l, okK k) ∧ ks.Nodup ∧ ∀ m ∈ L, SqT K H m.1 (m.2.map kV) ∧ NoD K H m.1
  | .non, v => Rp K H O .non v
  | .bl b, v => Rp K H O (.bl b) v
  | .int b, v => Rp K H O (.int b) v
  | .str b, v => Rp K H O (.str b) v
  | .tup b, v => Rp K H O (.tup b) v
  | .scr b, v => Rp K H O (.scr b) v
  | .adr b x, v => Rp K H O (.adr b x) v
end
section
variable [Pw] {K : PySem.W.Frag} {H H' : Hp} {O O' : Addr → Prop}
theorem Rp.b : ∀ {d : D} {v : V}, Rp K H O d v → Rb K H O d v
  | .non, _, h => h
  | .bl _, _, h => h
  | .int _, _, h => h
  | .str _, _, h => h
  | .tup _, _, h => h
  | .scr _, _, h => h
  | .adr _ _, _, h => h
  | .lst _, _, h => by
    simp only [Rp] at h
    obtain ⟨a, vs, e, _, h1, h2, h3⟩ := h
    exact ⟨a, vs, e, h1, h2, h3⟩
  | .dk _ _, _, h => by
    simp only [Rp] at h
    obtain ⟨a, vs, e, _, h1, h2, h3⟩ := h
    exact ⟨a, vs, e, h1, h2, h3⟩
  | .dt _ _, _, h => by
    simp only [Rp] at h
    obtain ⟨a, vs, e, _, h1, h2, h3⟩ := h
    exact ⟨a, vs, e, h1, h2, h3⟩
/-- what a step leaves -/
structure Stp (O O' : Addr → Prop) (H H' : Hp) : Prop where
  keep : ∀ a o, H a = some o → ¬ O a → NT o → H' a = some o
  tups : ∀ a xs, H a = some (.tup xs) → H' a = some (.tup xs)
  frzs : ∀ a o u, H a = some (.frz o u) → H' a = some (.frz o u)
  own : ∀ a, O' a → O a ∨ H a = none
theorem Stp.same (h : Same H H') : Stp O O H H' := ⟨fun a o e _ n => h.all a o e n, fun a xs e => h.all a _ e (fun _ z => nomatch z), fun a o u e => h.all a _ e (fun _ z => nomatch z), fun _ z => .inl z⟩
theorem Stp.sqT (h : Stp O O' H H') {a : Addr} {xs : List V} (q : SqT K H a xs) : SqT K H' a xs := by
  rcases q with (q | ⟨o, q⟩) | q
  · exact .inl (.inl (h.tups _ _ q))
  · exact .inl (.inr ⟨o, h.frzs _ _ _ q⟩)
  · exact .inr q
theorem Stp.nod (h : Stp O O' H H') {a : Addr} (q : NoD K H a) : NoD K H' a := by
  rcases q with ⟨o, u, q, d⟩ | q
  · exact .inl ⟨o, u, h.frzs _ _ _ q, d⟩
  · exact .inr q
theorem Stp.scr (h : Stp O O' H H') {a : Addr} {xs : List V} (q : ScrAt K H a xs) : ScrAt K H' a xs := by
  rcases q with ⟨o, q⟩ | q
  · exact .inl ⟨o, h.frzs _ _ _ q⟩
  · exact .inr q
theorem Stp.nown (h : Stp O O' H H') {a : Addr} {o : HO} (e : H a = some o) (n : ¬ O a) : ¬ O' a := fun z => by
  rcases h.own a z with z | z
  · exact n z
  · rw [e] at z; cases z
mutual
theorem Rp.step (h : Stp O O' H H') : ∀ (d : D) (v : V), Rp K H O d v → Rp K H' O' d v
  | .non, _, q => q
  | .bl _, _, q => q
  | .int _, _, q => q
  | .str _, _, q => q
  | .tup ds, v, q => by
    simp only [Rp] at q ⊢
    obtain ⟨a, vs, e, s, l, r, n⟩ := q
    exact ⟨a, vs, e, h.sqT s, l, Rps.step h ds vs r, h.nod n⟩
  | .lst ds, v, q => by
    simp only [Rp] at q ⊢
    obtain ⟨a, vs, e, n, s, l, r⟩ := q
    exact ⟨a, vs, e, h.nown s n, h.keep _ _ s n (by first | assumption | (intro _ z; cases z; done) | (intro _ z; unfold DicTO at z; cases z; done)), l, Rps.step h ds vs r⟩
  | .dk ks ds, v, q => by
    simp only [Rp] at q ⊢
    obtain ⟨a, vs, e, n, s, l, l2, l3, l4, r⟩ := q
    exact ⟨a, vs, e, h.nown s n, h.keep _ _ s n (by first | assumption | (intro _ z; cases z; done) | (intro _ z; unfold DicTO at z; cases z; done)), l, l2, l3, l4, Rps.step h ds _ r⟩
  | .dt ks ds, v, q => by
    simp only [Rp] at q ⊢
    obtain ⟨a, vs, e, n, s, l, l2, l3, l4, l5, r⟩ := q
    exact ⟨a, vs, e, h.nown s n, h.keep _ _ s n (by first | assumption | (intro _ z; cases z; done) | (intro _ z; unfold DicTO at z; cases z; done)), l, l2, l3, l4, l5, fun m hm => ⟨h.sqT (r m hm).1, h.nod (r m hm).2⟩⟩
  | .adr n x, v, q => by
    simp only [Rp] at q ⊢
    exact ⟨q.1, fun p e => ⟨h.nown (q.2 p e).2 (q.2 p e).1, h.keep _ _ (q.2 p e).2 (q.2 p e).1 (by first | assumption | (intro _ z; cases z; done) | (intro _ z; unfold DicTO at z; cases z; done))⟩⟩
  | .scr ns, v, q => by
    simp only [Rp] at q ⊢
    obtain ⟨a, e, s, l⟩ := q
    exact ⟨a, e, s.imp (fun s => h.scr s) (fun s => ⟨h.nown s.2 s.1, h.keep _ _ s.2 s.1 (by first | assumption | (intro _ z; cases z; done) | (intro _ z; unfold DicTO at z; cases z; done))⟩), l⟩
theorem Rps.step (h : Stp O O' H H') : ∀ (ds : List D) (vs : List V), Rps K H O ds vs → Rps K H' O' ds vs
  | [], [], _ => by simp only [Rps]
  | d :: r, v :: q, z => by
    simp only [Rps] at z ⊢
    exact ⟨Rp.step h d v z.1, Rps.step h r q z.2⟩
  | [], _ :: _, z => by simp only [Rps] at z
  | _ :: _, [], z => by simp only [Rps] at z
end
theorem Rb.same (h : Same H H') : ∀ {d : D} {v : V}, Rb K H O d v → Rb K H' O d v
  | .non, _, q => q
  | .bl _, _, q => q
  | .int _, _, q => q
  | .str _, _, q => q
  | .tup _, _, q => Rp.step (Stp.same h) _ _ q
  | .scr _, _, q => Rp.step (Stp.same h) _ _ q
  | .adr _ _, _, q => Rp.step (Stp.same h) _ _ q
  | .lst _, _, ⟨a, vs, e, s, l, r⟩ => ⟨a, vs, e, h _ _ s, l, Rps.step (Stp.same h) _ _ r⟩
  | .dk _ _, _, ⟨a, vs, e, s, l, l2, l3, l4, r⟩ => ⟨a, vs, e, h _ _ s, l, l2, l3, l4, Rps.step (Stp.same h) _ _ r⟩
  | .dt _ _, _, ⟨a, vs, e, s, l, l2, l3, l4, l5, r⟩ => ⟨a, vs, e, h _ _ s, l, l2, l3, l4, l5, fun m hm => ⟨(Stp.same (O := O) h).sqT (r m hm).1, (Stp.same (O := O) h).nod (r m hm).2⟩⟩
theorem Rps.nil : Rps K H O [] [] := by simp only [Rps]
theorem Rps.cons {d : D} {v : V} {ds : List D} {vs : List V} (h : Rp K H O d v) (t : Rps K H O ds vs) : Rps K H O (d :: ds) (v :: vs) := by
  simp only [Rps]; exact ⟨h, t⟩
theorem Rps.inv {d : D} {ds : List D} {vs : List V} (h : Rps K H O (d :: ds) vs) : ∃ v r, vs = v :: r ∧ Rp K H O d v ∧ Rps K H O ds r := by
  cases vs with
  | nil => simp only [Rps] at h
  | cons v r => simp only [Rps] at h; exact ⟨v, r, rfl, h.1, h.2⟩
theorem Rps.inv0 {vs : List V} (h : Rps K H O [] vs) : vs = [] := by
  cases vs with
  | nil => rfl
  | cons v r => simp only [Rps] at h
theorem Rps.len : ∀ {ds : List D} {vs : List V}, Rps K H O ds vs → ds.length = vs.length
  | [], vs, h => by rw [h.inv0]; rfl
  | d :: ds, vs, h => by
    obtain ⟨v, r, rfl, _, t⟩ := h.inv
    simp [Rps.len t]
theorem Rps.get : ∀ {ds : List D} {vs : List V} {i : Nat} {d : D}, Rps K H O ds vs → ds[i]? = some d → ∃ v, vs[i]? = some v ∧ Rp K H O d v
  | [], _, _, _, _, e => by simp at e
  | d :: ds, vs, 0, x, h, e => by
    obtain ⟨v, r, rfl, q, t⟩ := h.inv
    simp at e; subst e
    exact ⟨v, rfl, q⟩
  | d :: ds, vs, i + 1, x, h, e => by
    obtain ⟨v, r, rfl, q, t⟩ := h.inv
    obtain ⟨w, h1, h2⟩ := Rps.get (i := i) t (by simpa using e)
    exact ⟨w, by simpa using h1, h2⟩
theorem Rps.getV {ds : List D} {vs : List V} {i : Nat} {v : V} (h : Rps K H O ds vs) (e : vs[i]? = some v) : ∃ d, ds[i]? = some d ∧ Rp K H O d v := by
  have hl := h.len
  have hi : i < vs.length := by
    rcases List.getElem?_eq_some_iff.mp e with ⟨hi, _⟩; exact hi
  have hd : ds[i]? = some (ds[i]'(by omega)) := List.getElem?_eq_getElem (by omega)
  obtain ⟨w, h1, h2⟩ := h.get hd
  rw [e] at h1; cases h1
  exact ⟨_, hd, h2⟩
theorem Rps.append : ∀ {ds es : List D} {vs ws : List V}, Rps K H O ds vs → Rps K H O es ws → Rps K H O (ds ++ es) (vs ++ ws)
  | [], _, vs, _, h, t => by rw [h.inv0]; exact t
  | d :: ds, _, vs, _, h, t => by
    obtain ⟨v, r, rfl, q, z⟩ := h.inv
    exact Rps.cons q (Rps.append z t)
theorem Rps.take : ∀ {ds : List D} {vs : List V} (n : Nat), Rps K H O ds vs → Rps K H O (ds.take n) (vs.take n)
  | _, _, 0, _ => by simpa using Rps.nil
  | [], vs, n + 1, h => by rw [h.inv0]; exact Rps.nil
  | d :: ds, vs, n + 1, h => by
    obtain ⟨v, r, rfl, q, z⟩ := h.inv
    exact Rps.cons q (Rps.take n z)
theorem Rps.drop : ∀ {ds : List D} {vs : List V} (n : Nat), Rps K H O ds vs → Rps K H O (ds.drop n) (vs.drop n)
  | _, _, 0, h => by simpa using h
  | [], vs, n + 1, h => by rw [h.inv0]; exact Rps.nil
  | d :: ds, vs, n + 1, h => by
    obtain ⟨v, r, rfl, q, z⟩ := h.inv
    exact Rps.drop n z
theorem Rps.strs : ∀ {ds : List D} {vs : List V} {ss : List (List Nat)}, Rps K H O ds vs → strsO ds = some ss → vs = (ss.map toS).map V.str ∧ ds = ss.map .str ∧ ∀ s ∈ ss, okS s
  | [], vs, ss, h, e => by
    rw [h.inv0]; simp [strsO] at e; subst e; simp
  | d :: ds, vs, ss, h, e => by
    obtain ⟨v, r, rfl, q, z⟩ := h.inv
    cases d with
    | str s =>
      simp only [strsO, Option.map_eq_some_iff] at e
      obtain ⟨l, e1, rfl⟩ := e
      obtain ⟨h1, h2, h3⟩ := Rps.strs z e1
      simp only [Rp] at q
      refine ⟨by rw [h1, q.1]; rfl, by rw [h2]; rfl, ?_⟩
      intro t ht
      rcases List.mem_cons.mp ht with rfl | ht
      · exact q.2
      · exact h3 t ht
    | _ => simp [strsO] at e
theorem Rps.bools : ∀ {ds : List D} {vs : List V} {bs : List Bool}, Rps K H O ds vs → MT.bools ds = some bs → vs = bs.map V.bl
  | [], vs, ss, h, e => by
    rw [h.inv0]; simp [MT.bools] at e; subst e; simp
  | d :: ds, vs, ss, h, e => by
    obtain ⟨v, r, rfl, q, z⟩ := h.inv
    cases d with
    | bl s =>
      simp only [MT.bools, Option.map_eq_some_iff] at e
      obtain ⟨l, e1, rfl⟩ := e
      have h1 := Rps.bools z e1
      simp only [Rp] at q
      rw [h1, q]; rfl
    | _ => simp [MT.bools] at e
theorem Rps.ofStrs : ∀ {ss : List (List Nat)}, (∀ s ∈ ss, okS s) → Rps K H O (ss.map .str) ((ss.map toS).map V.str)
  | [], _ => Rps.nil
  | s :: ss, h => Rps.cons ⟨rfl, h s List.mem_cons_self⟩ (Rps.ofStrs fun t ht => h t (List.mem_cons_of_mem _ ht))

/-! ### frames -/
def Ow (Oc : Addr → Prop) (M : List Nat) (σ : St) (a : Addr) : Prop := Oc a ∨ ∃ i : Nat, M.contains i = true ∧ σ[i]? = some (some (V.ref a))
structure EnvOk (K : PySem.W.Frag) (H0 : Hp) (Oc : Addr → Prop) (M : List Nat) (Ts : List (D × V)) (σ : St) (H : Hp) (ρ : Rho) : Prop where
  len : σ.length = ρ.length
  base : Same H0 H
  oc : ∀ a, Oc a → H a ≠ none
  val : ∀ (i : Nat) d, ρ[i]? = some (some d) → ∃ v, σ[i]? = some (some v) ∧ (M.contains i = false → Rp K H (Ow Oc M σ) d v) ∧ (M.contains i = true → Rb K H (Ow Oc M σ) d v ∧ d.mut = true)
  own : ∀ (i : Nat) a, M.contains i = true → σ[i]? = some (some (V.ref a)) → H0 a = none ∧ ∃ d, ρ[i]? = some (some d)
  dist : ∀ (i j : Nat) a, M.contains i = true → M.contains j = true → σ[i]? = some (some (V.ref a)) → σ[j]? = some (some (V.ref a)) → i = j
  tmp : ∀ p ∈ Ts, Rp K H (Ow Oc M σ) p.1 p.2
  tabs : Amb H0
theorem Rb.ref {d : D} {v : V} (h : Rb K H O d v) (m : d.mut = true) : ∃ a, v = .ref a ∧ H a ≠ none := by
  cases d with
  | lst _ => obtain ⟨a, vs, e, s, _⟩ := h; exact ⟨a, e, by rw [s]; simp⟩
  | dk _ _ => obtain ⟨a, vs, e, s, _⟩ := h; exact ⟨a, e, by rw [s]; simp⟩
  | dt _ _ => obtain ⟨a, vs, e, s, _⟩ := h; exact ⟨a, e, by rw [s]; simp⟩
  | _ => cases m
theorem Rb.nc {d : D} {a : Addr} (h : Rb K H O d (.ref a)) (m : d.mut = true) : ∃ o, H a = some o ∧ NC a o := by
  cases d with
  | lst _ => obtain ⟨b, vs, e, s, _⟩ := h; cases e; exact ⟨_, s, nc_lst _ _⟩
  | dk _ _ => obtain ⟨b, vs, e, s, _⟩ := h; cases e; exact ⟨_, s, nc_dK _ _⟩
  | dt _ _ => obtain ⟨b, vs, e, s, _⟩ := h; cases e; exact ⟨_, s, nc_dic _ _ _ _⟩
  | _ => cases m
theorem EnvOk.alloc {H0 : Hp} {Oc : Addr → Prop} {M : List Nat} {Ts : List (D × V)} {σ : St} {ρ : Rho} (h : EnvOk K H0 Oc M Ts σ H ρ) : ∀ a, Ow Oc M σ a → H a ≠ none := by
  intro a z
  rcases z with z | ⟨i, hi, e⟩
  · exact h.oc a z
  · obtain ⟨_, d, e2⟩ := h.own i a hi e
    obtain ⟨v, e3, _, q⟩ := h.val i d e2
    rw [e] at e3; cases e3
    obtain ⟨b, e4, n⟩ := Rb.ref (q hi).1 (q hi).2
    cases e4
    exact n
theorem EnvOk.same {H0 : Hp} {Oc : Addr → Prop} {M : List Nat} {Ts : List (D × V)} {σ : St} {ρ : Rho} (h : EnvOk K H0 Oc M Ts σ H ρ) (s : Same H H') : EnvOk K H0 Oc M Ts σ H' ρ where
  len := h.len
  base := h.base.trans s
  oc := fun a z n => h.oc a z (s.nn a n)
  val := fun i d e => by
    obtain ⟨v, e1, q1, q2⟩ := h.val i d e
    exact ⟨v, e1, fun z => Rp.step (Stp.same s) _ _ (q1 z), fun z => ⟨Rb.same s (q2 z).1, (q2 z).2⟩⟩
  own := h.own
  dist := h.dist
  tmp := fun p hp => Rp.step (Stp.same s) _ _ (h.tmp p hp)
  tabs := h.tabs
end
theorem EnvOk.amb [Pw] {K : PySem.W.Frag} {H0 H : Hp} {Oc : Addr → Prop} {M : List Nat} {Ts : List (D × V)} {σ : St} {ρ : Rho} (h : EnvOk K H0 Oc M Ts σ H ρ) : Amb H := h.base.amb h.tabs
/-- a result's reading -/
def Run {α : Type} (m : R α) (k : α → Prop) (x : Xc → Prop) : Prop := match m with
  | .ok a => k a
  | .exc e => x e
  | .no => False
theorem Run.bind {α β : Type} {m : R α} {f : α → R β} {k : β → Prop} {x : Xc → Prop} : Run (m >>= f) k x ↔ Run m (fun a => Run (f a) k x) x := by
  cases m <;> exact Iff.rfl
theorem Run.mono {α : Type} {m : R α} {k k' : α → Prop} {x x' : Xc → Prop} (h : Run m k x) (hk : ∀ a, k a → k' a) (hx : ∀ e, x e → x' e) : Run m k' x' := by
  cases m with
  | ok a => exact hk a h
  | exc e => exact hx e h
  | no => exact h
end MT
end
section
set_option Elab.async false
set_option linter.all false
set_option maxRecDepth 100000
set_option maxHeartbeats 4000000
/-! MtT: tuples that are known to bear no dict of their own. -/
namespace MT
open PySem PySem.Spec L2 PyProof.Rows HT
section
variable {X : Cx} {pins : List (Addr × Obj)} {σ : L2.St} {H : Hp} {s : Shared}
/-- the wish behind a new tuple -/
abbrev NewT (H : Hp) (Q : VK) (xs : List V) : Prop := ∀ (p : Addr) (o : Obj), H p = none → o.dict = none → Q (.ref p) (upd H p (.frz o (.tup xs)))
theorem laidF {Q : VK} {xs : List V} {us : List Value} {k : Nat} (I : Inv X pins σ H s) (r : Vals xs us) (z : xs.length ≤ sizeLine) (q : NewT H Q xs) :
    EP X pins σ Q (.ref s.heap.objs.size) { s with toks := k, heap := s.heap.push { cls := .type "tuple", data := .seq us.toArray } } := by
  have new : ObjOk X.prog X.w (upd H s.heap.objs.size (.frz { cls := .type "tuple", data := .seq us.toArray } (.tup xs))) (s.heap.push { cls := .type "tuple", data := .seq us.toArray }) s.heap.objs.size (.frz { cls := .type "tuple", data := .seq us.toArray } (.tup xs)) :=
    ⟨Heap.get?_push_size _ rfl, z, us, r, IsTup.new _ _⟩
  exact ⟨.ref s.heap.objs.size, _, I.laid (t' := k) (fun b u e => Heap.get?_push_of_some _ e) (Nat.le_refl _) new, rfl, q _ _ (I.hok.fresh (Nat.le_refl _)) rfl⟩
theorem laid3 {Q : VK} {x y z : Str} {t u v : Tok} {k : Nat} (I : Inv X pins σ H s) (q : NewT H Q [.str x, .str y, .str z]) :
    EP X pins σ Q (.ref s.heap.objs.size) { s with toks := k, heap := s.heap.push { cls := .type "tuple", data := .seq [Value.str x t, .str y u, .str z v].toArray } } :=
  laidF (xs := [.str x, .str y, .str z]) I (.cons ⟨t, rfl⟩ (.cons ⟨u, rfl⟩ (.cons ⟨v, rfl⟩ .nil))) (by show 3 ≤ sizeLine; decide) q
end
section
variable {X : Cx}
def tTupF (t : TA) : TE := fun σ H Q => t σ H fun xs H1 => xs.length ≤ sizeLine ∧ NewT H1 Q xs
theorem pe_tupF {es : List Expr} {t : TA} {n : Nat} {pos : Pos} (h : PA X es t) : PE X (.Tuple es n pos) (tTupF t) := by
  constructor
  intro pins s σ H Q I w
  refine wpAny_Tuple_spliced (thn (h.run pos pins s σ H _ I w) ?_)
  rintro us s1 ⟨xs, H1, I1, r, z, q⟩
  exact ⟨r.length ▸ z, laidF (k := s1.toks) I1 r z q⟩
theorem call_tupleF : CallR X (.type "tuple") (fun xs H Q => ∃ p ys, xs = [.ref p] ∧ ((SqL X.K H p ys ∧ NewT H Q ys) ∨ (SqT X.K H p ys ∧ Q (.ref p) H))) := by
  intro pins s σ H xs us Q I r w
  obtain ⟨p, ys, rfl, w⟩ := w
  obtain ⟨u, rfl, ru⟩ := vals1 r
  cases ru
  rcases w with ⟨sq, q⟩ | ⟨sq, q⟩
  · obtain ⟨its, rv, pl, hz⟩ := I.list sq
    have hlen := rv.length
    refine call_tuple_list pl.isList (fun h' kp => ?_) (by simp only [List.size_toArray]; omega)
    exact laidF (s := { s with heap := h' }) (k := s.toks) (I.kept (t' := s.toks) kp) rv hz q
  · obtain ⟨its, _, pl, _⟩ := I.tuple sq
    exact call_tuple_same pl ⟨.ref p, H, I, rfl, q⟩
def rCatF (K : PySem.W.Frag) : R2 := fun x y H Q => ∃ a b xs ys, x = .ref a ∧ y = .ref b ∧ SqT K H a xs ∧ SqT K H b ys ∧ xs.length + ys.length ≤ sizeLine ∧
  (xs = [] → Q (.ref b) H) ∧ (xs ≠ [] → ys = [] → Q (.ref a) H) ∧ (xs ≠ [] → ys ≠ [] → NewT H Q (xs ++ ys))
theorem op_catF : OpR X (binaryOp .Add) (rCatF X.K) := by
  intro pins s σ H x y v u Q I rx ry w
  obtain ⟨a, b, xs, ys, rfl, rfl, ha, hb, hz, q0, q1, q2⟩ := w
  cases rx
  cases ry
  obtain ⟨its, r1, p1, _⟩ := I.tuple ha
  obtain ⟨its2, r2, p2, _⟩ := I.tuple hb
  by_cases hx : xs = []
  · subst hx
    cases r1
    exact cat_tup0 p1 p2 ⟨.ref b, H, I, rfl, q0 rfl⟩
  · refine HT.cat_tup p1 p2 (fun z => hx (r1.nil_iff.mp z)) (fun z => ⟨.ref a, H, I, rfl, q1 hx (r2.nil_iff.mp z)⟩) (fun z => ?_) (by rw [← r1.length, ← r2.length]; exact hz)
    exact laidF (k := s.toks) I (r1.append r2) (by rw [List.length_append]; exact hz) (q2 hx fun w => z (r2.nil_iff.mpr w))
def rSlF (K : PySem.W.Frag) : V → Option Int → Option Int → Hp → VK → Prop := fun x lo hi H Q => ∃ a xs, x = .ref a ∧ SqT K H a xs ∧
  (HT.sIx xs.length 0 lo = 0 ∧ HT.sIx xs.length xs.length hi = xs.length → Q (.ref a) H) ∧ (¬ (HT.sIx xs.length 0 lo = 0 ∧ HT.sIx xs.length xs.length hi = xs.length) → NewT H Q (cutV xs lo hi))
theorem sl_tupF : SlR X (rSlF X.K) := by
  intro pins s σ H x v vl vu lo hi sl Q I rx hs pl pu w
  obtain ⟨a, xs, rfl, hx, q1, q2⟩ := w
  cases rx
  obtain ⟨its, r, ht, hz⟩ := I.tuple hx
  have hn : its.toArray.size = xs.length := by rw [List.size_toArray]; exact r.length.symm
  refine ⟨"tuple", _, PyProof.Rows.slot_tuple_getitem.lookup, ht.typeIs, ?_⟩
  by_cases hw : HT.sIx xs.length 0 lo = 0 ∧ HT.sIx xs.length xs.length hi = xs.length
  · exact getItem_tuple_whole ht hs pl pu (by rw [hn]; exact hw) ⟨.ref a, H, I, rfl, q1 hw⟩
  · refine HT.getItem_tuple_cut ht hs pl pu (by rw [hn]; exact hw) ?_ (by rw [hn]; exact hz)
    rw [hn]
    exact laidF (k := s.toks) I ((r.drop (HT.sIx xs.length 0 lo)).take (HT.sIx xs.length xs.length hi - HT.sIx xs.length 0 lo)) (Nat.le_trans (cutV_length xs lo hi) hz) (q2 hw)
theorem mt_partF : MtR X "str.partition" (fun x xs H Q => ∃ a b, x = .str a ∧ xs = [.str b] ∧ (b.length == 0) = false ∧ a.length ≤ sizeLine ∧
    NewT H Q [.str (Txt.partition a b).1, .str (Txt.partition a b).2.1, .str (Txt.partition a b).2.2]) := by
  intro pins s σ H x xs v us Q I rx rs w
  obtain ⟨a, b, rfl, rfl, hb, hz, w⟩ := w
  obtain ⟨t, rfl⟩ := rx
  obtain ⟨u', rfl, u, rfl⟩ := vals1 rs
  refine call_meets F.slot_str_partition (typeIs_str _ _ _) F.entry_str_partition (F.args_str_partition_2 _ _) (meets_str_partition a b t u hb hz) ?_
  unfold Txt.partition at w
  revert w
  cases Builtin.Str.occurrences a b 0 a.length 1 with
  | nil => intro w; exact laid3 I w
  | cons i r => intro w; exact laid3 I w
end
end MT
end
section
set_option Elab.async false
set_option linter.all false
set_option maxRecDepth 100000
/-! Mt5: bools among ints: b + i, b - i, b * i, i - b. -/
namespace MT
open PySem PySem.Spec L2
section
variable {prog : Program} {w : World} {A : Around} {E : Value → Shared → Prop} {s : Shared}
theorem g_add_bi (b : Bool) (j : Int) (t : Tok) : Gives (Builtin.«int.__add__» ⟨[.bool b, .int j t], []⟩) (.int ((if b = true then (1 : Int) else 0) + j)) :=
  .of_wp fun M A E s Q h => by obtain ⟨hp, g, d, tk, os⟩ := s; wp_walk; exact ⟨_, rfl, h⟩
theorem g_sub_bi (b : Bool) (j : Int) (t : Tok) : Gives (Builtin.«int.__sub__» ⟨[.bool b, .int j t], []⟩) (.int ((if b = true then (1 : Int) else 0) - j)) :=
  .of_wp fun M A E s Q h => by obtain ⟨hp, g, d, tk, os⟩ := s; wp_walk; exact ⟨_, rfl, h⟩
theorem g_mul_bi (b : Bool) (j : Int) (t : Tok) : Gives (Builtin.«int.__mul__» ⟨[.bool b, .int j t], []⟩) (.int ((if b = true then (1 : Int) else 0) * j)) := by
  have hm : IntMulOk (if b = true then (1 : Int) else 0) j := .of_left (by cases b <;> decide)
  refine .of_eq ?_
  show (ite _ _ _ : Sem Fin) = _
  rw [if_neg hm]; rfl
theorem sub_int_bool_no : isSubtype (.type "int") (.type "bool") = pure false := by kernel_rfl
theorem same_sub_ib : reflectedDiffers (.type "int") (.type "bool") "sub" = pure false := by
  unfold reflectedDiffers
  show (typeLookup (.type "bool") (dunderR "sub") >>= fun rb => typeLookup (.type "int") (dunderR "sub") >>= fun ra => pure (rb.isSome && rb != ra)) = pure false
  rw [typeLookup_type, typeLookup_type, builtinLookup_eq_fast]; kernel_rfl
variable {b : Bool} {j : Int} {t : Tok} {Q : Value → Shared → Prop}
theorem w_add_bi (h : Q (.int ((if b = true then (1 : Int) else 0) + j) s.toks) { s with toks := s.toks + 1 }) : wpAny (model prog w) A (binaryOp .Add (.bool b) (.int j t)) Q E s :=
  binaryOp_left_gives (op := .Add) (T := "bool") (U := "int") (by decide) rfl (fun s' => typeIs_int s' j t) F.fills_bool_add F.fills_int_add sub_int_bool_no F.slot_bool_add F.slot_int_radd F.entry_int_add (F.args_int_add_2 _ _) (g_add_bi b j t) trivial h
theorem w_sub_bi (h : Q (.int ((if b = true then (1 : Int) else 0) - j) s.toks) { s with toks := s.toks + 1 }) : wpAny (model prog w) A (binaryOp .Sub (.bool b) (.int j t)) Q E s :=
  binaryOp_left_gives (op := .Sub) (T := "bool") (U := "int") (by decide) rfl (fun s' => typeIs_int s' j t) F.fills_bool_sub F.fills_int_sub sub_int_bool_no F.slot_bool_sub F.slot_int_rsub F.entry_int_sub (F.args_int_sub_2 _ _) (g_sub_bi b j t) trivial h
theorem w_mul_bi (h : Q (.int ((if b = true then (1 : Int) else 0) * j) s.toks) { s with toks := s.toks + 1 }) : wpAny (model prog w) A (binaryOp .Mult (.bool b) (.int j t)) Q E s :=
  binaryOp_left_gives (op := .Mult) (T := "bool") (U := "int") (by decide) rfl (fun s' => typeIs_int s' j t) F.fills_bool_mul F.fills_int_mul sub_int_bool_no F.slot_bool_mul F.slot_int_rmul F.entry_int_mul (F.args_int_mul_2 _ _) (g_mul_bi b j t) trivial h
theorem w_sub_ib (h : Q (.int (j - if b = true then (1 : Int) else 0) s.toks) { s with toks := s.toks + 1 }) : wpAny (model prog w) A (binaryOp .Sub (.int j t) (.bool b)) Q E s :=
  binaryOp_sub_gives (op := .Sub) (T := "int") (U := "bool") (by decide) (typeIs_int s j t) rfl F.fills_int_sub F.fills_bool_sub isSubtype_bool_int same_sub_ib F.slot_int_sub F.entry_int_sub (F.args_int_sub_2 _ _) (AutoIntG7.int___sub___int_bool_0 j t b) trivial h
end
section
variable {X : Cx}
def bI (b : Bool) : Int := if b = true then 1 else 0
theorem op_add_bi : OpR X (binaryOp .Add) (fun x y H Q => ∃ k i, x = .bl k ∧ y = .int i ∧ Q (.int (bI k + i)) H) := by
  intro pins s σ H x y v u Q I rx ry h
  obtain ⟨k, i, rfl, rfl, q⟩ := h
  obtain ⟨t, rfl⟩ := ry
  cases rx
  exact w_add_bi ⟨.int (bI k + i), H, I.tok _, ⟨_, rfl⟩, q⟩
theorem op_sub_bi : OpR X (binaryOp .Sub) (fun x y H Q => ∃ k i, x = .bl k ∧ y = .int i ∧ Q (.int (bI k - i)) H) := by
  intro pins s σ H x y v u Q I rx ry h
  obtain ⟨k, i, rfl, rfl, q⟩ := h
  obtain ⟨t, rfl⟩ := ry
  cases rx
  exact w_sub_bi ⟨.int (bI k - i), H, I.tok _, ⟨_, rfl⟩, q⟩
theorem op_mul_bi : OpR X (binaryOp .Mult) (fun x y H Q => ∃ k i, x = .bl k ∧ y = .int i ∧ Q (.int (bI k * i)) H) := by
  intro pins s σ H x y v u Q I rx ry h
  obtain ⟨k, i, rfl, rfl, q⟩ := h
  obtain ⟨t, rfl⟩ := ry
  cases rx
  exact w_mul_bi ⟨.int (bI k * i), H, I.tok _, ⟨_, rfl⟩, q⟩
theorem op_sub_ib : OpR X (binaryOp .Sub) (fun x y H Q => ∃ i k, x = .int i ∧ y = .bl k ∧ Q (.int (i - bI k)) H) := by
  intro pins s σ H x y v u Q I rx ry h
  obtain ⟨i, k, rfl, rfl, q⟩ := h
  obtain ⟨t, rfl⟩ := rx
  cases ry
  exact w_sub_ib ⟨.int (i - bI k), H, I.tok _, ⟨_, rfl⟩, q⟩
end
end MT
end
section
set_option Elab.async false
set_option linter.all false
set_option maxRecDepth 100000
set_option maxHeartbeats 4000000
/-! MtD: the operations, by data. -/
namespace MT
open PySem PySem.Spec L2
variable [Pw]
theorem Same.new {H : Hp} {p : Addr} {o : HO} (h : H p = none) : Same H (upd H p o) := Same.of fun b x e => by
  rw [upd_ne (ne_of_none e h)]
  exact e
theorem Stp.new {H H' : Hp} {O : Addr → Prop} {p : Addr} (s : Same H H') (hp : H p = none) : Stp O (fun b => O b ∨ b = p) H H' := ⟨fun a o e _ n => s.all a o e n, fun a xs e => s a _ e, fun a o u e => s a _ e, fun a z => z.imp id fun q => by rw [q]; exact hp⟩
/-- a new value -/
def NwT (K : PySem.W.Frag) (H H' : Hp) (O : Addr → Prop) (d : D) (v : V) : Prop := ∃ a, v = .ref a ∧ H a = none ∧ Rb K H' (fun b => O b ∨ b = a) d v
def Nw (K : PySem.W.Frag) (H H' : Hp) (O : Addr → Prop) (d : D) (v : V) : Prop := Rp K H' O d v ∧ (d.mut = true → NwT K H H' O d v)
def AllocO (O : Addr → Prop) (H : Hp) : Prop := ∀ a, O a → H a ≠ none
def rD2 (K : PySem.W.Frag) (g : D → D → R D) : R2 := fun x y H Q => ∃ O d1 d2 d, AllocO O H ∧ Rb K H O d1 x ∧ Rb K H O d2 y ∧ g d1 d2 = .ok d ∧ ∀ v H', Same H H' → Nw K H H' O d v → Q v H'
/-- an operation that makes nothing new but a truth -/
def rB2 (K : PySem.W.Frag) (g : D → D → R Bool) : R2 := fun x y H Q => ∃ O d1 d2 b, AllocO O H ∧ Rb K H O d1 x ∧ Rb K H O d2 y ∧ g d1 d2 = .ok b ∧ Q (.bl b) H
section
variable {K : PySem.W.Frag} {H : Hp} {O : Addr → Prop}
theorem nw_int {H' : Hp} (i : Int) : Nw K H H' O (.int i) (.int i) := ⟨rfl, fun h => nomatch h⟩
theorem nw_bl {H' : Hp} (b : Bool) : Nw K H H' O (.bl b) (.bl b) := ⟨rfl, fun h => nomatch h⟩
theorem nw_str {H' : Hp} {s : List Nat} (h : okS s) : Nw K H H' O (.str s) (.str (toS s)) := ⟨⟨rfl, h⟩, fun h => nomatch h⟩
theorem nw_lst {p : Addr} {ds : List D} {vs : List V} (al : AllocO O H) (hp : H p = none) (hl : ds.length ≤ LIM) (r : Rps K H O ds vs) : Nw K H (upd H p (.lst vs)) O (.lst ds) (.ref p) := by
  refine ⟨?_, fun _ => ⟨p, rfl, hp, p, vs, rfl, upd_same, hl, Rps.step (Stp.new (Same.new hp) hp) _ _ r⟩⟩
  simp only [Rp]
  exact ⟨p, vs, rfl, fun z => al p z hp, upd_same, hl, Rps.step (Stp.same (Same.new hp)) _ _ r⟩
theorem nw_tup {p : Addr} {ds : List D} {vs : List V} {o : Obj} (hp : H p = none) (ho : o.dict = none) (hl : ds.length ≤ LIM) (r : Rps K H O ds vs) : Nw K H (upd H p (.frz o (.tup vs))) O (.tup ds) (.ref p) := by
  refine ⟨?_, fun h => nomatch h⟩
  simp only [Rp]
  exact ⟨p, vs, rfl, .inl (.inr ⟨o, upd_same⟩), hl, Rps.step (Stp.same (Same.new hp)) _ _ r, .inl ⟨o, _, upd_same, ho⟩⟩
/-- as Rp; but a tuple on top may bear a dict -/
def Rw (K : PySem.W.Frag) (H : Hp) (O : Addr → Prop) (d : D) (v : V) : Prop := Rp K H O d v ∨ ∃ ds a vs, d = .tup ds ∧ v = .ref a ∧ SqT K H a vs ∧ ds.length ≤ LIM ∧ Rps K H O ds vs
theorem Rp.w {d : D} {v : V} (h : Rp K H O d v) : Rw K H O d v := .inl h
theorem rb_tup {ds : List D} {v : V} (h : Rb K H O (.tup ds) v) : ∃ a vs, v = .ref a ∧ SqT K H a vs ∧ ds.length ≤ LIM ∧ Rps K H O ds vs := by
  have h' : Rp K H O (.tup ds) v := h
  simp only [Rp] at h'
  obtain ⟨a, vs, e, s, l, r, _⟩ := h'
  exact ⟨a, vs, e, s, l, r⟩
theorem rb_tupN {ds : List D} {v : V} (h : Rb K H O (.tup ds) v) : ∃ a vs, v = .ref a ∧ SqT K H a vs ∧ ds.length ≤ LIM ∧ Rps K H O ds vs ∧ NoD K H a := by
  have h' : Rp K H O (.tup ds) v := h
  simp only [Rp] at h'
  exact h'
theorem rw_tup {ds : List D} {v : V} (h : Rw K H O (.tup ds) v) : ∃ a vs, v = .ref a ∧ SqT K H a vs ∧ ds.length ≤ LIM ∧ Rps K H O ds vs := by
  rcases h with h | ⟨ds', a, vs, e, r⟩
  · exact rb_tup h.b
  · cases e; exact ⟨a, vs, r⟩
theorem rb_str {s : List Nat} {v : V} (h : Rb K H O (.str s) v) : v = .str (toS s) ∧ okS s := by
  have h' : Rp K H O (.str s) v := h
  simp only [Rp] at h'
  exact h'
theorem rb_int {s : Int} {v : V} (h : Rb K H O (.int s) v) : v = .int s := by
  have h' : Rp K H O (.int s) v := h
  simp only [Rp] at h'
  exact h'
theorem rb_bl {s : Bool} {v : V} (h : Rb K H O (.bl s) v) : v = .bl s := by
  have h' : Rp K H O (.bl s) v := h
  simp only [Rp] at h'
  exact h'
theorem rb_non {v : V} (h : Rb K H O .non v) : v = .non := by
  have h' : Rp K H O .non v := h
  simp only [Rp] at h'
  exact h'
theorem rb_adr {n : Nat} {x : Option (Nat × List Nat)} {v : V} (h : Rb K H O (.adr n x) v) : v = .ref (adOf n) := by
  have h' : Rp K H O (.adr n x) v := h
  simp only [Rp] at h'
  exact h'.1
theorem rb_scr {ns : List Int} {v : V} (h : Rb K H O (.scr ns) v) : ∃ a, v = .ref a ∧ SqL K H a (ns.map V.int) ∧ ns.length ≤ LIM := by
  have h' : Rp K H O (.scr ns) v := h
  simp only [Rp] at h'
  obtain ⟨a, e, s, l⟩ := h'
  exact ⟨a, e, s.elim (fun s => s.sqL) (fun s => .inl (.inl s.2)), l⟩
theorem rb_lst {ds : List D} {v : V} (h : Rb K H O (.lst ds) v) : ∃ a vs, v = .ref a ∧ H a = some (.lst vs) ∧ ds.length ≤ LIM ∧ Rps K H O ds vs := h
theorem okS_app {a b : List Nat} (ha : okS a) (hb : okS b) (h : a.length + b.length ≤ LIM) : okS (a ++ b) := ⟨by rw [List.length_append]; exact h, fun c hc => (List.mem_append.mp hc).elim (ha.2 c) (hb.2 c)⟩
theorem toS_app (a b : List Nat) : toS a ++ toS b = toS (a ++ b) := TL.ext_tl (TL.tl_append _ _)

theorem len_toS (s : List Nat) : (toS s).length = s.length := by simp [toS, Str.length]
theorem tl_toS (s : List Nat) : (toS s).cps.toList = s := rfl
omit [Pw] in
theorem toS_inj {a b : List Nat} (h : toS a = toS b) : a = b := by
  have := congrArg (fun z : Str => z.cps.toList) h
  simpa using this
end
section
variable {X : Cx}
omit [Pw] in
theorem lt_iff (a b : List Nat) : (decide (a < b)) = ltS a b := by
  induction a generalizing b with
  | nil =>
    cases b with
    | nil => rfl
    | cons y q => rfl
  | cons x r ih =>
    cases b with
    | nil => rfl
    | cons y q =>
      rw [ltS, ← ih q]
      by_cases h : x < y
      · rw [if_pos h]; exact decide_eq_true (List.Lex.rel h)
      · rw [if_neg h]
        by_cases h2 : x = y
        · subst h2
          rw [if_pos rfl]
          by_cases h3 : r < q
          · rw [decide_eq_true h3]; exact decide_eq_true (List.Lex.cons h3)
          · rw [decide_eq_false h3]
            refine decide_eq_false fun z => ?_
            cases z with
            | rel h' => exact h h'
            | cons h' => exact h3 h'
        · rw [if_neg h2]
          refine decide_eq_false fun z => ?_
          cases z with
          | rel h' => exact h h'
          | cons h' => exact h2 rfl
theorem op_addD : OpR X (binaryOp .Add) (rD2 X.K (op2D .add)) := by
  intro pins s σ H x y v u Q I rx ry h
  obtain ⟨O, d1, d2, d, al, r1, r2, e, q⟩ := h
  cases d1 with
  | bl b =>
    cases d2 with
    | int j =>
      cases e
      exact op_add_bi pins s σ H x y v u Q I rx ry ⟨b, j, rb_bl r1, rb_int r2, q _ _ (Same.refl H) (nw_int _)⟩
    | _ => cases e
  | int i =>
    cases d2 with
    | int j =>
      cases e
      exact op_add pins s σ H x y v u Q I rx ry ⟨i, j, rb_int r1, rb_int r2, q _ _ (Same.refl H) (nw_int _)⟩
    | _ => cases e
  | str a =>
    cases d2 with
    | str b =>
      simp only [op2D] at e
      split at e
      · rename_i hl
        cases e
        obtain ⟨e1, o1⟩ := rb_str r1
        obtain ⟨e2, o2⟩ := rb_str r2
        refine op_add_str pins s σ H x y v u Q I rx ry ⟨toS a, toS b, e1, e2, ?_, ?_⟩
        · rw [len_toS, len_toS, ← lim_eq]; exact hl
        · rw [toS_app]; exact q _ _ (Same.refl H) (nw_str (okS_app o1 o2 hl))
      · cases e
    | _ => cases e
  | lst a =>
    cases d2 with
    | lst b =>
      simp only [op2D] at e
      split at e
      · rename_i hl
        cases e
        obtain ⟨l1, vs1, e1, h1, n1, p1⟩ := rb_lst r1
        obtain ⟨l2, vs2, e2, h2, n2, p2⟩ := rb_lst r2
        refine op_cat pins s σ H x y v u Q I rx ry ⟨l1, l2, vs1, vs2, e1, e2, h1, h2, ?_, fun p hp => q _ _ (Same.new hp) ?_⟩
        · rw [← p1.len, ← p2.len, ← lim_eq]; exact hl
        · exact nw_lst al hp (by rw [List.length_append]; exact hl) (p1.append p2)
      · cases e
    | _ => cases e
  | tup a =>
    cases d2 with
    | tup b =>
      simp only [op2D] at e
      split at e
      · rename_i hl
        cases e
        obtain ⟨l1, vs1, e1, h1, n1, p1⟩ := rb_tup r1
        obtain ⟨l2, vs2, e2, h2, n2, p2⟩ := rb_tup r2
        refine op_catF pins s σ H x y v u Q I rx ry ⟨l1, l2, vs1, vs2, e1, e2, h1, h2, ?_, ?_⟩
        · rw [← p1.len, ← p2.len, ← lim_eq]; exact hl
        · refine ⟨fun z => ?_, fun z z2 => ?_, fun z z2 p o hp ho => ?_⟩
          · subst z
            have ea : a = [] := List.eq_nil_of_length_eq_zero (by rw [p1.len]; rfl)
            subst ea
            refine q _ _ (Same.refl H) ⟨?_, fun h => nomatch h⟩
            rw [← e2]; exact r2
          · subst z2
            have eb : b = [] := List.eq_nil_of_length_eq_zero (by rw [p2.len]; rfl)
            subst eb
            refine q _ _ (Same.refl H) ⟨?_, fun h => nomatch h⟩
            rw [← e1, List.append_nil]; exact r1
          · exact q _ _ (Same.new hp) (nw_tup hp ho (by rw [List.length_append]; exact hl) (p1.append p2))
      · cases e
    | _ => cases e
  | _ => cases d2 <;> cases e

theorem op_subD : OpR X (binaryOp .Sub) (rD2 X.K (op2D .sub)) := by
  intro pins s σ H x y v u Q I rx ry h
  obtain ⟨O, d1, d2, d, al, r1, r2, e, q⟩ := h
  cases d1 with
  | bl b =>
    cases d2 with
    | int j =>
      cases e
      exact op_sub_bi pins s σ H x y v u Q I rx ry ⟨b, j, rb_bl r1, rb_int r2, q _ _ (Same.refl H) (nw_int _)⟩
    | _ => cases e
  | int i =>
    cases d2 with
    | int j =>
      cases e
      exact op_sub pins s σ H x y v u Q I rx ry ⟨i, j, rb_int r1, rb_int r2, q _ _ (Same.refl H) (nw_int _)⟩
    | bl b =>
      cases e
      exact op_sub_ib pins s σ H x y v u Q I rx ry ⟨i, b, rb_int r1, rb_bl r2, q _ _ (Same.refl H) (nw_int _)⟩
    | _ => cases e
  | _ => cases d2 <;> cases e
theorem small_iff {i : Int} (h : small i = true) : -(2 ^ 64) < i ∧ i < 2 ^ 64 := by
  unfold small at h
  have := of_decide_eq_true h
  omega
theorem rep_cps (a : List Nat) : ∀ (m : Nat) (acc : Array Nat), List.foldl (fun x y => x ++ y) acc (List.replicate m a.toArray) = acc ++ (List.replicate m a).flatten.toArray
  | 0, acc => by simp
  | m + 1, acc => by
    rw [List.replicate_succ, List.foldl_cons, rep_cps a m, List.replicate_succ, List.flatten_cons]
    simp
theorem okS_rep {a : List Nat} (h : okS a) {m : Nat} (hl : a.length * m ≤ LIM) : okS (List.replicate m a).flatten := by
  refine ⟨?_, fun c hc => ?_⟩
  · rw [List.length_flatten, List.map_replicate, List.sum_replicate_nat, Nat.mul_comm]; exact hl
  · obtain ⟨l, h1, h2⟩ := List.mem_flatten.mp hc
    rw [List.eq_of_mem_replicate h1] at h2
    exact h.2 c h2
theorem mulS {pins : List (Addr × Obj)} {σ : L2.St} {H : Hp} {s : Shared} {a : List Nat} {n : Int} {t t2 : Tok} {Q : Value → Shared → Prop} {E : Value → Shared → Prop} (h0 : 0 ≤ n) (h1 : n ≤ 1000) (hl : a.length * n.toNat ≤ LIM) (ok : okS a) (I : Inv X pins σ H s)
    (hQ : ∀ v s', Inv X pins σ H s' → RelV (.str (toS (List.replicate n.toNat a).flatten)) v → okS (List.replicate n.toNat a).flatten → Q v s') :
    wpAny (model X.prog X.w) X.A (binaryOp .Mult (.str (toS a) t) (.int n t2)) Q E s := by
  have hok := okS_rep ok hl
  have hz : (toS a).length * n.toNat ≤ sizeLine := by rw [len_toS, ← lim_eq]; exact hl
  refine PySem.P.mul_str (by rw [decide_eq_false (by omega), decide_eq_false (by omega)]; rfl) (fun hn _ => ?_) (fun hn _ => decide_eq_false (Nat.not_lt.mpr hz)) ?_
  · rw [len_toS]
    have h2 : a.length ≤ LIM := ok.1
    have h3 : (LIM : Int) ≤ (2 ^ 63 - 1) / n := by
      rw [Int.le_ediv_iff_mul_le (by omega)]
      have : (LIM : Int) = 16777216 := rfl
      rw [this]
      omega
    omega
  · split
    · rename_i hn
      have e : n = 0 := by omega
      subst e
      exact ⟨by decide, hQ _ _ (I.tok _) ⟨_, rfl⟩ hok⟩
    · rename_i hn
      split
      · rename_i hc
        have e : (List.replicate n.toNat a).flatten = a := by
          rw [Bool.or_eq_true] at hc
          rcases hc with hc | hc
          · have : n = 1 := by simpa using hc
            subst this; simp
          · have : a = [] := by
              rw [len_toS] at hc
              exact List.eq_nil_of_length_eq_zero (by simpa using hc)
            subst this; simp
        rw [e] at hQ hok
        exact hQ _ _ I ⟨_, rfl⟩ hok
      · have e : (⟨(List.replicate n.toNat (toS a).cps).foldl (· ++ ·) #[]⟩ : Str) = toS (List.replicate n.toNat a).flatten := by
          have := rep_cps a n.toNat #[]
          rw [Array.empty_append] at this
          exact congrArg Str.mk this
        refine ⟨?_, ?_⟩
        · rw [e, len_toS, ← lim_eq]; exact hok.1
        · rw [e]; exact hQ _ _ (I.tok _) ⟨_, rfl⟩ hok
theorem op_mulD : OpR X (binaryOp .Mult) (rD2 X.K (op2D .mul)) := by
  intro pins s σ H x y v u Q I rx ry h
  obtain ⟨O, d1, d2, d, al, r1, r2, e, q⟩ := h
  cases d1 with
  | bl b =>
    cases d2 with
    | int j =>
      cases e
      exact op_mul_bi pins s σ H x y v u Q I rx ry ⟨b, j, rb_bl r1, rb_int r2, q _ _ (Same.refl H) (nw_int _)⟩
    | _ => cases e
  | int i =>
    cases d2 with
    | int j =>
      simp only [op2D] at e
      split at e
      · rename_i hc
        cases e
        refine op_mul pins s σ H x y v u Q I rx ry ⟨i, j, rb_int r1, rb_int r2, ?_, q _ _ (Same.refl H) (nw_int _)⟩
        rw [Bool.or_eq_true] at hc
        rcases hc with hc | hc
        · exact .inl (small_iff hc)
        · exact .inr (small_iff hc)
      · cases e
    | _ => cases e
  | str a =>
    cases d2 with
    | int n =>
      simp only [op2D] at e
      split at e
      · rename_i hc
        cases e
        obtain ⟨e1, o1⟩ := rb_str r1
        subst e1
        rw [rb_int r2] at ry
        obtain ⟨t, rfl⟩ := rx
        obtain ⟨t2, rfl⟩ := ry
        exact mulS hc.1 hc.2.1 hc.2.2 o1 I fun v' s' I' rv' ov => ⟨_, H, I', rv', q _ _ (Same.refl H) (nw_str ov)⟩
      · cases e
    | _ => cases e
  | lst a =>
    cases d2 with
    | int n =>
      simp only [op2D] at e
      split at e
      · rename_i hc
        cases e
        obtain ⟨l1, vs1, e1, h1, n1, p1⟩ := rb_lst r1
        have hlen : (List.replicate n.toNat a).flatten.length = a.length * n.toNat := by
          rw [List.length_flatten, List.map_replicate, List.sum_replicate_nat, Nat.mul_comm]
        have hrep : ∀ m : Nat, Rps X.K H O (List.replicate m a).flatten (List.replicate m vs1).flatten := by
          intro m
          induction m with
          | zero => exact Rps.nil
          | succ m ih =>
            rw [List.replicate_succ, List.replicate_succ, List.flatten_cons, List.flatten_cons]
            exact p1.append ih
        refine op_rep pins s σ H x y v u Q I rx ry ⟨l1, n, vs1, e1, rb_int r2, h1, by omega, by omega, by rw [← p1.len, ← lim_eq]; exact hc.2.2, fun p hp => q _ _ (Same.new hp) (nw_lst al hp ?_ (hrep _))⟩
        rw [hlen]; exact hc.2.2
      · cases e
    | _ => cases e
  | _ => cases d2 <;> cases e
theorem op_powD : OpR X (binaryOp .Pow) (rD2 X.K (op2D .pow)) := by
  intro pins s σ H x y v u Q I rx ry h
  obtain ⟨O, d1, d2, d, al, r1, r2, e, q⟩ := h
  cases d1 with
  | int i =>
    cases d2 with
    | int j =>
      simp only [op2D] at e
      split at e
      · rename_i hc
        cases e
        exact op_pow pins s σ H x y v u Q I rx ry ⟨i, j, rb_int r1, rb_int r2, ⟨hc.1, by omega, hc.2.2⟩, q _ _ (Same.refl H) (nw_int _)⟩
      · cases e
    | _ => cases e
  | _ => cases d2 <;> cases e
theorem op_modD : OpR X (binaryOp .Mod) (rD2 X.K (op2D .mod)) := by
  intro pins s σ H x y v u Q I rx ry h
  obtain ⟨O, d1, d2, d, al, r1, r2, e, q⟩ := h
  cases d1 with
  | int i =>
    cases d2 with
    | int j =>
      simp only [op2D] at e
      split at e
      · rename_i hc
        cases e
        exact op_mod pins s σ H x y v u Q I rx ry ⟨i, j, rb_int r1, rb_int r2, hc, q _ _ (Same.refl H) (nw_int _)⟩
      · cases e
    | _ => cases e
  | _ => cases d2 <;> cases e
theorem op_fdivD : OpR X (binaryOp .FloorDiv) (rD2 X.K (op2D .fdiv)) := by
  intro pins s σ H x y v u Q I rx ry h
  obtain ⟨O, d1, d2, d, al, r1, r2, e, q⟩ := h
  cases d1 with
  | int i =>
    cases d2 with
    | int j =>
      simp only [op2D] at e
      split at e
      · rename_i hc
        cases e
        exact op_fdiv pins s σ H x y v u Q I rx ry ⟨i, j, rb_int r1, rb_int r2, hc, q _ _ (Same.refl H) (nw_int _)⟩
      · cases e
    | _ => cases e
  | _ => cases d2 <;> cases e
def rD1 (K : PySem.W.Frag) (g : D → R D) : V → Hp → VK → Prop := fun x H Q => ∃ O d1 d, AllocO O H ∧ Rb K H O d1 x ∧ g d1 = .ok d ∧ ∀ v H', Same H H' → Nw K H H' O d v → Q v H'
theorem un_negD : UnR X (unaryOp .USub) (rD1 X.K negD) := by
  intro pins s σ H x v Q I rx h
  obtain ⟨O, d1, d, al, r1, e, q⟩ := h
  cases d1 with
  | int i =>
    cases e
    exact un_neg pins s σ H x v Q I rx ⟨i, rb_int r1, q _ _ (Same.refl H) (nw_int _)⟩
  | _ => cases e
/-! ### equality -/
mutual
def toPy : D → PyData
  | .non => .none
  | .bl b => .bool b
  | .int i => .int i
  | .str s => .str (toS s)
  | .tup xs => .tuple (toPys xs)
  | .lst xs => .list (toPys xs)
  | .dk _ _ => .none
  | .dt _ _ => .none
  | .scr _ => .none
  | .adr _ _ => .none
def toPys : List D → List PyData
  | [] => []
  | d :: r => toPy d :: toPys r
end
mutual
theorem toPy_eqv : ∀ (a b : D), a.flatD = true → b.flatD = true → PyData.eqv (toPy a) (toPy b) = eqD a b
  | .tup xs, .tup ys, ha, hb => by
    simp only [toPy, PyData.eqv, eqD]
    exact toPys_eqv xs ys (by simpa [D.flatD] using ha) (by simpa [D.flatD] using hb)
  | .lst xs, .lst ys, ha, hb => by
    simp only [toPy, PyData.eqv, eqD]
    exact toPys_eqv xs ys (by simpa [D.flatD] using ha) (by simpa [D.flatD] using hb)
  | .str s, .str t, _, _ => by
    simp only [toPy, PyData.eqv, eqD]
    by_cases h : s = t
    · subst h; simp
    · rw [decide_eq_false h]
      exact beq_eq_false_iff_ne.mpr fun z => h (toS_inj z)
  | .dk _ _, _, ha, _ => by simp [D.flatD] at ha
  | .dt _ _, _, ha, _ => by simp [D.flatD] at ha
  | .scr _, _, ha, _ => by simp [D.flatD] at ha
  | .adr _ _, _, ha, _ => by simp [D.flatD] at ha
  | .non, b, _, hb => by cases b <;> first | (simp [D.flatD] at hb; done) | rfl | (simp [toPy, PyData.eqv, eqD])
  | .bl x, b, _, hb => by cases b <;> first | (simp [D.flatD] at hb; done) | rfl | (simp [toPy, PyData.eqv, eqD, MT.b2i])
  | .int x, b, _, hb => by cases b <;> first | (simp [D.flatD] at hb; done) | rfl | (simp [toPy, PyData.eqv, eqD, MT.b2i])
  | .str x, .non, _, hb => by simp [toPy, PyData.eqv, eqD]
  | .str x, .bl _, _, hb => by simp [toPy, PyData.eqv, eqD]
  | .str x, .int _, _, hb => by simp [toPy, PyData.eqv, eqD]
  | .str x, .tup _, _, hb => by simp [toPy, PyData.eqv, eqD]
  | .str x, .lst _, _, hb => by simp [toPy, PyData.eqv, eqD]
  | .str x, .dk _ _, _, hb => by simp [D.flatD] at hb
  | .str x, .dt _ _, _, hb => by simp [D.flatD] at hb
  | .str x, .scr _, _, hb => by simp [D.flatD] at hb
  | .str x, .adr _ _, _, hb => by simp [D.flatD] at hb
  | .tup x, .non, _, hb => by simp [toPy, PyData.eqv, eqD]
  | .tup x, .bl _, _, hb => by simp [toPy, PyData.eqv, eqD]
  | .tup x, .int _, _, hb => by simp [toPy, PyData.eqv, eqD]
  | .tup x, .str _, _, hb => by simp [toPy, PyData.eqv, eqD]
  | .tup x, .lst _, _, hb => by simp [toPy, PyData.eqv, eqD]
  | .tup x, .dk _ _, _, hb => by simp [D.flatD] at hb
  | .tup x, .dt _ _, _, hb => by simp [D.flatD] at hb
  | .tup x, .scr _, _, hb => by simp [D.flatD] at hb
  | .tup x, .adr _ _, _, hb => by simp [D.flatD] at hb
  | .lst x, .non, _, hb => by simp [toPy, PyData.eqv, eqD]
  | .lst x, .bl _, _, hb => by simp [toPy, PyData.eqv, eqD]
  | .lst x, .int _, _, hb => by simp [toPy, PyData.eqv, eqD]
  | .lst x, .str _, _, hb => by simp [toPy, PyData.eqv, eqD]
  | .lst x, .tup _, _, hb => by simp [toPy, PyData.eqv, eqD]
  | .lst x, .dk _ _, _, hb => by simp [D.flatD] at hb
  | .lst x, .dt _ _, _, hb => by simp [D.flatD] at hb
  | .lst x, .scr _, _, hb => by simp [D.flatD] at hb
  | .lst x, .adr _ _, _, hb => by simp [D.flatD] at hb
theorem toPys_eqv : ∀ (a b : List D), D.flatDs a = true → D.flatDs b = true → PyData.eqvAll (toPys a) (toPys b) = eqDs a b
  | [], [], _, _ => by simp [toPys, PyData.eqvAll, eqDs]
  | [], y :: q, _, _ => by simp [toPys, PyData.eqvAll, eqDs]
  | x :: r, [], _, _ => by simp [toPys, PyData.eqvAll, eqDs]
  | x :: r, y :: q, ha, hb => by
    simp only [D.flatDs, Bool.and_eq_true] at ha hb
    simp only [toPys, PyData.eqvAll, eqDs]
    rw [toPy_eqv x y ha.1 hb.1, toPys_eqv r q ha.2 hb.2]
end
mutual
theorem toPy_lay {K : PySem.W.Frag} {H : Hp} {O : Addr → Prop} : ∀ (d : D) (v : V), d.flatD = true → Rp K H O d v → (toPy d).canLay0 = true ∧ (toPy d).depth = d.depth ∧ Dp K H v (toPy d)
  | .non, v, _, h => by simp only [Rp] at h; subst h; exact ⟨by simp [toPy, PyData.canLay0], by simp [toPy, PyData.depth, D.depth], by simp only [toPy]; exact .non⟩
  | .bl b, v, _, h => by simp only [Rp] at h; subst h; exact ⟨by simp [toPy, PyData.canLay0], by simp [toPy, PyData.depth, D.depth], by simp only [toPy]; exact .bl b⟩
  | .int i, v, _, h => by simp only [Rp] at h; subst h; exact ⟨by simp [toPy, PyData.canLay0], by simp [toPy, PyData.depth, D.depth], by simp only [toPy]; exact .int i⟩
  | .str s, v, _, h => by
    simp only [Rp] at h
    obtain ⟨rfl, o⟩ := h
    refine ⟨?_, by simp [toPy, PyData.depth, D.depth], by simp only [toPy]; exact .str _⟩
    simp only [toPy, PyData.canLay0, PyData.strOk]
    simp only [List.all_toArray, List.all_eq_true, decide_eq_true_eq]
    exact o.2
  | .tup xs, v, f, h => by
    simp only [Rp] at h
    obtain ⟨a, vs, rfl, sq, _, r, _⟩ := h
    obtain ⟨h1, h2, h3⟩ := toPys_lay xs vs (by simpa [D.flatD] using f) r
    exact ⟨by simp only [toPy, PyData.canLay0]; exact h1, by simp only [toPy, PyData.depth, D.depth, h2], by simp only [toPy]; exact .tup sq h3⟩
  | .lst xs, v, f, h => by
    simp only [Rp] at h
    obtain ⟨a, vs, rfl, _, sq, _, r⟩ := h
    obtain ⟨h1, h2, h3⟩ := toPys_lay xs vs (by simpa [D.flatD] using f) r
    exact ⟨by simp only [toPy, PyData.canLay0]; exact h1, by simp only [toPy, PyData.depth, D.depth, h2], by simp only [toPy]; exact .lst (SqL.of sq) h3⟩
  | .dk _ _, _, ha, _ => by simp [D.flatD] at ha
  | .dt _ _, _, ha, _ => by simp [D.flatD] at ha
  | .scr _, _, ha, _ => by simp [D.flatD] at ha
  | .adr _ _, _, ha, _ => by simp [D.flatD] at ha
theorem toPys_lay {K : PySem.W.Frag} {H : Hp} {O : Addr → Prop} : ∀ (ds : List D) (vs : List V), D.flatDs ds = true → Rps K H O ds vs → PyData.canLayAll0 (toPys ds) = true ∧ PyData.depthAll (toPys ds) = D.depths ds ∧ DpAll K H vs (toPys ds)
  | [], vs, _, h => by rw [h.inv0]; exact ⟨by simp [toPys, PyData.canLayAll0], by simp [toPys, PyData.depthAll, D.depths], by simp only [toPys]; exact .nil⟩
  | d :: ds, vs, f, h => by
    obtain ⟨v, r, rfl, q, t⟩ := h.inv
    simp only [D.flatDs, Bool.and_eq_true] at f
    obtain ⟨a1, a2, a3⟩ := toPy_lay d v f.1 q
    obtain ⟨b1, b2, b3⟩ := toPys_lay ds r f.2 t
    exact ⟨by simp only [toPys, PyData.canLayAll0, a1, b1, Bool.and_self], by simp only [toPys, PyData.depthAll, D.depths, a2, b2], by simp only [toPys]; exact .cons a3 b3⟩
end
theorem rb_dp {K : PySem.W.Frag} {H : Hp} {O : Addr → Prop} {d : D} {v : V} (f : d.flatD = true) (hd : d.depth ≤ 64) (h : Rb K H O d v) : Dp K H v (toPy d) ∧ SeqAt.shaped (toPy d) = true := by
  have key : (toPy d).canLay0 = true ∧ (toPy d).depth = d.depth ∧ Dp K H v (toPy d) := by
    cases d with
    | lst xs =>
      obtain ⟨a, vs, rfl, sq, _, r⟩ := h
      obtain ⟨h1, h2, h3⟩ := toPys_lay xs vs (by simpa [D.flatD] using f) r
      exact ⟨by simp only [toPy, PyData.canLay0]; exact h1, by simp only [toPy, PyData.depth, D.depth, h2], by simp only [toPy]; exact .lst (SqL.of sq) h3⟩
    | dk _ _ => simp [D.flatD] at f
    | dt _ _ => simp [D.flatD] at f
    | _ => exact toPy_lay (O := O) _ _ f h
  refine ⟨key.2.2, ?_⟩
  unfold SeqAt.shaped
  rw [key.1, key.2.1, decide_eq_true hd]; rfl
theorem eqOk_iff {a b : D} (h : eqOk a b = true) : a.flatD = true ∧ b.flatD = true ∧ a.depth ≤ 64 ∧ b.depth ≤ 64 := by
  unfold eqOk at h
  simp only [Bool.and_eq_true, decide_eq_true_eq] at h
  exact ⟨h.1.1.1, h.1.1.2, h.1.2, h.2⟩
theorem op_eqDD (hu : X.A.units + 64 < cLine) : OpR X (compareOp .Eq) (rB2 X.K (cmD .eq)) := by
  intro pins s σ H x y v u Q I rx ry h
  obtain ⟨O, d1, d2, b, al, r1, r2, e, q⟩ := h
  simp only [cmD] at e
  split at e
  · rename_i hc
    cases e
    obtain ⟨f1, f2, g1, g2⟩ := eqOk_iff hc
    obtain ⟨p1, s1⟩ := rb_dp f1 g1 r1
    obtain ⟨p2, s2⟩ := rb_dp f2 g2 r2
    refine op_eqD hu pins s σ H x y v u Q I rx ry ⟨_, _, p1, p2, s1, s2, ?_⟩
    rw [toPy_eqv _ _ f1 f2]; exact q
  · cases e
theorem op_neDD (hu : X.A.units + 64 < cLine) : OpR X (compareOp .NotEq) (rB2 X.K (cmD .ne)) := by
  intro pins s σ H x y v u Q I rx ry h
  obtain ⟨O, d1, d2, b, al, r1, r2, e, q⟩ := h
  simp only [cmD] at e
  split at e
  · rename_i hc
    cases e
    obtain ⟨f1, f2, g1, g2⟩ := eqOk_iff hc
    obtain ⟨p1, s1⟩ := rb_dp f1 g1 r1
    obtain ⟨p2, s2⟩ := rb_dp f2 g2 r2
    refine op_neD hu pins s σ H x y v u Q I rx ry ⟨_, _, p1, p2, s1, s2, ?_⟩
    rw [toPy_eqv _ _ f1 f2]; exact q
  · cases e
end
end MT
end
section
set_option Elab.async false
set_option linter.all false
set_option maxRecDepth 100000
set_option maxHeartbeats 4000000
/-! MtE: more operations, by data. -/
namespace MT
open PySem PySem.Spec L2
variable [Pw]
section
variable {X : Cx}
/-! ### order -/
theorem cm_ord {op : CmpOp} {c : Cm} (hi : OpR X (compareOp op) (fun x y H Q => ∃ i j : Int, x = .int i ∧ y = .int j ∧ ∃ b, cmD c (.int i) (.int j) = .ok b ∧ Q (.bl b) H))
    (hs : OpR X (compareOp op) (fun x y H Q => ∃ i j : List Nat, x = .str (toS i) ∧ y = .str (toS j) ∧ ∃ b, cmD c (.str i) (.str j) = .ok b ∧ Q (.bl b) H))
    (ho : ∀ d1 d2 b, cmD c d1 d2 = .ok b → (∃ i j, d1 = .int i ∧ d2 = .int j) ∨ ∃ i j, d1 = .str i ∧ d2 = .str j) : OpR X (compareOp op) (rB2 X.K (cmD c)) := by
  intro pins s σ H x y v u Q I rx ry h
  obtain ⟨O, d1, d2, b, al, r1, r2, e, q⟩ := h
  rcases ho d1 d2 b e with ⟨i, j, rfl, rfl⟩ | ⟨i, j, rfl, rfl⟩
  · exact hi pins s σ H x y v u Q I rx ry ⟨i, j, rb_int r1, rb_int r2, b, e, q⟩
  · exact hs pins s σ H x y v u Q I rx ry ⟨i, j, (rb_str r1).1, (rb_str r2).1, b, e, q⟩
theorem op_ltD : OpR X (compareOp .Lt) (rB2 X.K (cmD .lt)) := cm_ord
  (fun pins s σ H x y v u Q I rx ry ⟨i, j, e1, e2, b, e, q⟩ => op_lt pins s σ H x y v u Q I rx ry ⟨i, j, e1, e2, by cases e; exact q⟩)
  (fun pins s σ H x y v u Q I rx ry ⟨i, j, e1, e2, b, e, q⟩ => op_lt_str pins s σ H x y v u Q I rx ry ⟨_, _, e1, e2, by cases e; rw [← lt_iff] at q; exact q⟩)
  (fun d1 d2 b e => by cases d1 <;> cases d2 <;> first | exact .inl ⟨_, _, rfl, rfl⟩ | exact .inr ⟨_, _, rfl, rfl⟩ | cases e)
theorem op_leD : OpR X (compareOp .LtE) (rB2 X.K (cmD .le)) := cm_ord
  (fun pins s σ H x y v u Q I rx ry ⟨i, j, e1, e2, b, e, q⟩ => op_le pins s σ H x y v u Q I rx ry ⟨i, j, e1, e2, by cases e; exact q⟩)
  (fun pins s σ H x y v u Q I rx ry ⟨i, j, e1, e2, b, e, q⟩ => op_le_str pins s σ H x y v u Q I rx ry ⟨_, _, e1, e2, by cases e; rw [← lt_iff] at q; exact q⟩)
  (fun d1 d2 b e => by cases d1 <;> cases d2 <;> first | exact .inl ⟨_, _, rfl, rfl⟩ | exact .inr ⟨_, _, rfl, rfl⟩ | cases e)
theorem op_gtD : OpR X (compareOp .Gt) (rB2 X.K (cmD .gt)) := cm_ord
  (fun pins s σ H x y v u Q I rx ry ⟨i, j, e1, e2, b, e, q⟩ => op_gt pins s σ H x y v u Q I rx ry ⟨i, j, e1, e2, by cases e; exact q⟩)
  (fun pins s σ H x y v u Q I rx ry ⟨i, j, e1, e2, b, e, q⟩ => op_gt_str pins s σ H x y v u Q I rx ry ⟨_, _, e1, e2, by cases e; rw [← lt_iff] at q; exact q⟩)
  (fun d1 d2 b e => by cases d1 <;> cases d2 <;> first | exact .inl ⟨_, _, rfl, rfl⟩ | exact .inr ⟨_, _, rfl, rfl⟩ | cases e)
theorem tri_is {xs : List D} {p : Int × Int × List Nat} (h : triO xs = some p) : xs = [.int p.1, .int p.2.1, .str p.2.2] := by
  unfold triO at h
  split at h
  · cases h; rfl
  · cases h
theorem op_geD (hu : X.A.units < cLine) : OpR X (compareOp .GtE) (rB2 X.K (cmD .ge)) := by
  intro pins s σ H x y v u Q I rx ry h
  obtain ⟨O, d1, d2, b, al, r1, r2, e, q⟩ := h
  cases d1 with
  | int i =>
    cases d2 with
    | int j => exact op_ge pins s σ H x y v u Q I rx ry ⟨i, j, rb_int r1, rb_int r2, by cases e; exact q⟩
    | _ => cases e
  | str i =>
    cases d2 with
    | str j => exact op_ge_str pins s σ H x y v u Q I rx ry ⟨_, _, (rb_str r1).1, (rb_str r2).1, by cases e; rw [← lt_iff] at q; exact q⟩
    | _ => cases e
  | tup xs =>
    cases d2 with
    | tup ys =>
      have e' : getO xs ys = .ok b := e
      unfold getO at e'
      cases h1 : triO xs with
      | none => rw [h1] at e'; cases e'
      | some p =>
        cases h2 : triO ys with
        | none => rw [h1, h2] at e'; cases e'
        | some p' =>
          rw [h1, h2] at e'
          cases e'
          have e1 := tri_is h1
          have e2 := tri_is h2
          subst e1 e2
          obtain ⟨a1, a2, s1⟩ := p
          obtain ⟨b1, b2, s2⟩ := p'
          obtain ⟨a, vs, rfl, sa, _, ra⟩ := rb_tup r1
          obtain ⟨a', vs', rfl, sb, _, rb⟩ := rb_tup r2
          obtain ⟨v1, w1, rfl, q1, ra⟩ := ra.inv
          obtain ⟨v2, w2, rfl, q2, ra⟩ := ra.inv
          obtain ⟨v3, w3, rfl, q3, ra⟩ := ra.inv
          have := ra.inv0
          subst this
          obtain ⟨v1', w1', rfl, q1', rb⟩ := rb.inv
          obtain ⟨v2', w2', rfl, q2', rb⟩ := rb.inv
          obtain ⟨v3', w3', rfl, q3', rb⟩ := rb.inv
          have := rb.inv0
          subst this
          have f1 := rb_int q1.b
          have f2 := rb_int q2.b
          have f3 := (rb_str q3.b).1
          have g1 := rb_int q1'.b
          have g2 := rb_int q2'.b
          have g3 := (rb_str q3'.b).1
          subst f1 f2 f3 g1 g2 g3
          cases rx
          cases ry
          obtain ⟨its, rv, pl, _⟩ := I.tuple sa
          obtain ⟨its2, rv2, pl2, _⟩ := I.tuple sb
          cases rv with
          | cons z1 rv =>
            cases rv with
            | cons z2 rv =>
              cases rv with
              | cons z3 rv =>
                cases rv
                cases rv2 with
                | cons y1 rv2 =>
                  cases rv2 with
                  | cons y2 rv2 =>
                    cases rv2 with
                    | cons y3 rv2 =>
                      cases rv2
                      obtain ⟨k1, rfl⟩ := z1
                      obtain ⟨k2, rfl⟩ := z2
                      obtain ⟨k3, rfl⟩ := z3
                      obtain ⟨l1, rfl⟩ := y1
                      obtain ⟨l2, rfl⟩ := y2
                      obtain ⟨l3, rfl⟩ := y3
                      have R := Ob.RcOp.tuples_ge (A := X.A) (s := s) (e := fun j => match j with | 0 => a1 == b1 | 1 => a2 == b2 | _ => toS s1 == toS s2) (r := fun j => match j with | 0 => decide (b1 ≤ a1) | 1 => decide (b2 ≤ a2) | _ => !decide ((toS s1).cps.toList < (toS s2).cps.toList)) pl pl2 hu (fun j h1 h2 => by
                        match j, h1, h2 with
                        | 0, _, _ => exact SeqAt.EqAt.int_int _ _ _ _
                        | 1, _, _ => exact SeqAt.EqAt.int_int _ _ _ _
                        | 2, _, _ => exact SeqAt.EqAt.str_str _ _ _ _
                        | j + 3, h1, _ => exact absurd h1 (by simp)) (fun j h1 h2 _ => by
                        match j, h1, h2 with
                        | 0, _, _ => exact Ob.RcOp.ge_int _ _ _ _
                        | 1, _, _ => exact Ob.RcOp.ge_int _ _ _ _
                        | 2, _, _ => exact fun prog w E Q h => (show wpAny (model prog w) _ (compareOp .GtE _ _) Q E s from PySem.P.ge_str h)
                        | j + 3, h1, _ => exact absurd h1 (by simp))
                      have z : wpAny (model X.prog X.w) X.A (compareOp .GtE (.ref a) (.ref a')) (EP X pins σ Q) X.xe s := R X.prog X.w X.xe (EP X pins σ Q) ⟨.bl _, H, I, rfl, ?_⟩
                      · exact z
                      · have hb : geT (a1, a2, s1) (b1, b2, s2) = Ob.lexAt (fun j => match j with | 0 => a1 == b1 | 1 => a2 == b2 | _ => toS s1 == toS s2) (fun j => match j with | 0 => decide (b1 ≤ a1) | 1 => decide (b2 ≤ a2) | _ => !decide ((toS s1).cps.toList < (toS s2).cps.toList)) true 0 3 := by
                          have hlt : decide ((toS s1).cps.toList < (toS s2).cps.toList) = ltS s1 s2 := lt_iff s1 s2
                          have hs : (toS s1 == toS s2) = decide (s1 = s2) := by
                            by_cases hq : s1 = s2
                            · subst hq; simp
                            · rw [decide_eq_false hq]
                              refine beq_eq_false_iff_ne.mpr fun z => hq ?_
                              have := congrArg (fun q : Str => q.cps.toList) z
                              simpa using this
                          simp only [Ob.lexAt, geT, hlt, hs, beq_iff_eq, decide_eq_true_eq]
                        rw [hb] at q
                        exact q
    | _ => cases e
  | _ => cases d2 <;> cases e
/-! ### is -/
theorem rb_is_non {K : PySem.W.Frag} {H : Hp} {O : Addr → Prop} {d : D} {v : V} (h : Rb K H O d v) : decide (v = .non) = decide (d = .non) := by
  cases d with
  | non => rw [rb_non h]; rfl
  | bl b => rw [rb_bl h]; rfl
  | int b => rw [rb_int h]; rfl
  | str b => rw [(rb_str h).1]; rfl
  | tup b => obtain ⟨a, vs, rfl, _⟩ := rb_tup h; rfl
  | lst b => obtain ⟨a, vs, rfl, _⟩ := rb_lst h; rfl
  | dk _ _ => obtain ⟨a, vs, rfl, _⟩ := h; rfl
  | dt _ _ => obtain ⟨a, vs, rfl, _⟩ := h; rfl
  | scr _ => obtain ⟨a, rfl, _⟩ := rb_scr h; rfl
  | adr _ _ => rw [rb_adr h]; rfl
theorem op_isD : OpR X (compareOp .Is) (rB2 X.K (cmD .is)) := by
  intro pins s σ H x y v u Q I rx ry h
  obtain ⟨O, d1, d2, b, al, r1, r2, e, q⟩ := h
  cases d2 with
  | non =>
    refine op_isN pins s σ H x y v u Q I rx ry ⟨rb_non r2, ?_⟩
    rw [rb_is_non r1]
    cases d1 <;> (cases e; exact q)
  | bl k =>
    cases d1 with
    | bl j =>
      cases e
      refine op_isBl pins s σ H x y v u Q I rx ry ⟨j, k, rb_bl r1, rb_bl r2, ?_⟩
      have : (j == k) = decide (j = k) := by cases j <;> cases k <;> rfl
      rw [← this]; exact q
    | _ => cases e
  | _ => cases d1 <;> cases e
theorem op_isnD : OpR X (compareOp .IsNot) (rB2 X.K (cmD .isn)) := by
  intro pins s σ H x y v u Q I rx ry h
  obtain ⟨O, d1, d2, b, al, r1, r2, e, q⟩ := h
  cases d2 with
  | non =>
    refine op_notN pins s σ H x y v u Q I rx ry ⟨rb_non r2, ?_⟩
    rw [rb_is_non r1]
    cases d1 <;> (cases e; exact q)
  | bl k =>
    cases d1 with
    | bl j =>
      cases e
      refine op_notBl pins s σ H x y v u Q I rx ry ⟨j, k, rb_bl r1, rb_bl r2, ?_⟩
      have : (j == k) = decide (j = k) := by cases j <;> cases k <;> rfl
      rw [← this]; exact q
    | _ => cases e
  | _ => cases d1 <;> cases e
/-! ### in -/
theorem sc_V {K : PySem.W.Frag} {H : Hp} {O : Addr → Prop} {d : D} {v : V} (h : Rb K H O d v) (hs : d.sc = true) : flatV v = true := by
  cases d with
  | non => rw [rb_non h]; rfl
  | bl b => rw [rb_bl h]; rfl
  | int b => rw [rb_int h]; rfl
  | str b => rw [(rb_str h).1]; rfl
  | _ => cases hs
theorem sc_eq {K : PySem.W.Frag} {H : Hp} {O : Addr → Prop} {d e : D} {v w : V} (h : Rb K H O d v) (g : Rb K H O e w) (hs : d.sc = true) (gs : e.sc = true) : eqV v w = eqD d e := by
  have hst : ∀ s t : List Nat, eqV (.str (toS s)) (.str (toS t)) = eqD (.str s) (.str t) := fun s t => by
    show decide _ = _ <;> simp only [eqD]
    by_cases h : s = t
    · subst h; simp
    · rw [decide_eq_false h]
      first
        | exact decide_eq_false fun z => h (toS_inj z)
        | exact beq_eq_false_iff_ne.mpr fun z => h (toS_inj z)
  cases d with
  | non => cases e with
    | non => rw [rb_non h, rb_non g]; rfl
    | bl _ => rw [rb_non h, rb_bl g]; rfl
    | int _ => rw [rb_non h, rb_int g]; rfl
    | str _ => rw [rb_non h, (rb_str g).1]; rfl
    | _ => cases gs
  | bl a => cases e with
    | non => rw [rb_bl h, rb_non g]; rfl
    | bl _ => rw [rb_bl h, rb_bl g]; rfl
    | int _ => rw [rb_bl h, rb_int g]; rfl
    | str _ => rw [rb_bl h, (rb_str g).1]; rfl
    | _ => cases gs
  | int a => cases e with
    | non => rw [rb_int h, rb_non g]; rfl
    | bl _ => rw [rb_int h, rb_bl g]; rfl
    | int _ => rw [rb_int h, rb_int g]; rfl
    | str _ => rw [rb_int h, (rb_str g).1]; rfl
    | _ => cases gs
  | str a => cases e with
    | non => rw [(rb_str h).1, rb_non g]; rfl
    | bl _ => rw [(rb_str h).1, rb_bl g]; rfl
    | int _ => rw [(rb_str h).1, rb_int g]; rfl
    | str b => rw [(rb_str h).1, (rb_str g).1]; exact hst a b
    | _ => cases gs
  | _ => cases hs
theorem scs_V {K : PySem.W.Frag} {H : Hp} {O : Addr → Prop} {d : D} {v : V} (h : Rb K H O d v) (hs : d.sc = true) : ∀ {ds : List D} {vs : List V}, Rps K H O ds vs → ds.all D.sc = true → vs.all flatV = true ∧ inV v vs = ds.any fun z => eqD z d
  | [], vs, r, _ => by rw [r.inv0]; exact ⟨rfl, rfl⟩
  | e :: ds, vs, r, ha => by
    obtain ⟨w, q, rfl, p, t⟩ := r.inv
    rw [List.all_cons, Bool.and_eq_true] at ha
    obtain ⟨h1, h2⟩ := scs_V h hs t ha.2
    refine ⟨by rw [List.all_cons, sc_V p.b ha.1, h1]; rfl, ?_⟩
    unfold inV at h2 ⊢
    rw [List.any_cons, List.any_cons, h2, sc_eq p.b h ha.1 hs]
theorem kyD_of {K : PySem.W.Frag} {H : Hp} {O : Addr → Prop} {d : D} {v : V} {k : Ky} (h : Rb K H O d v) (e : d.ky = some k) : v = kV (kyV k) ∧ okK k := by
  cases d with
  | int i => cases e; exact ⟨rb_int h, trivial⟩
  | str s => cases e; exact rb_str h
  | _ => cases e
theorem kyV_inj {a b : Ky} (h : kyV a = kyV b) : a = b := by
  cases a <;> cases b <;> simp [kyV] at h
  · rw [h]
  · rw [show _ = _ from h]
theorem look_val {K : PySem.W.Frag} {H : Hp} {O : Addr → Prop} (k : Ky) : ∀ {ks : List Ky} {ds : List D} {kvs : List (Key × V)}, kvs.map (·.1) = ks.map kyV → Rps K H O ds (kvs.map (·.2)) →
    (look k ks ds = none ∧ valV kvs (kyV k) = none) ∨ ∃ d v, look k ks ds = some d ∧ valV kvs (kyV k) = some v ∧ Rp K H O d v
  | [], ds, kvs, e, r => by
    have : kvs = [] := by simpa using e
    subst this
    exact .inl ⟨by cases ds <;> rfl, rfl⟩
  | a :: ks, ds, kvs, e, r => by
    cases kvs with
    | nil => simp at e
    | cons p q =>
      simp only [List.map_cons, List.cons.injEq] at e
      obtain ⟨e1, e2⟩ := e
      cases ds with
      | nil => have := r.len; simp at this
      | cons d ds =>
        obtain ⟨v, w, e3, r1, r2⟩ := r.inv
        simp only [List.map_cons, List.cons.injEq] at e3
        obtain ⟨e3, e4⟩ := e3
        by_cases h : a = k
        · subst h
          refine .inr ⟨d, v, by simp [look], ?_, r1⟩
          rw [valV_pos e1, e3]
        · have h2 : ¬ p.1 = kyV k := fun z => h (kyV_inj (e1.symm.trans z))
          rw [valV_neg h2]
          rcases look_val k e2 (by rw [e4]; exact r2) with ⟨z1, z2⟩ | ⟨d', v', z1, z2, z3⟩
          · exact .inl ⟨by simp [look, h, z1], z2⟩
          · exact .inr ⟨d', v', by simp [look, h, z1], z2, z3⟩
theorem op_in_d {b : Bool} (hu : X.A.units + 1 < cLine) : OpR X (compareOp .In) (fun x y H Q => ∃ a o, y = .ref a ∧ DGet H a x o ∧ Q (.bl o.isSome) H) := by
  intro pins s σ H x y v u Q I rx ry h
  obtain ⟨a, o, rfl, g, q⟩ := h
  cases ry
  exact d_in hu I g rx fun s' I' => ⟨.bl _, H, I', rfl, q⟩
theorem op_nin_d (hu : X.A.units + 1 < cLine) : OpR X (compareOp .NotIn) (fun x y H Q => ∃ a o, y = .ref a ∧ DGet H a x o ∧ Q (.bl (!o.isSome)) H) := by
  intro pins s σ H x y v u Q I rx ry h
  obtain ⟨a, o, rfl, g, q⟩ := h
  cases ry
  exact d_notIn hu I g rx fun s' I' => ⟨.bl _, H, I', rfl, q⟩
def rInT (K : PySem.W.Frag) (f : Bool → Bool) : R2 := fun x y H Q => ∃ d ds, Dp K H x d ∧ Dp K H y (.tuple ds) ∧ SeqAt.shaped d = true ∧ SeqAt.shaped (.tuple ds) = true ∧ Q (.bl (f (ds.any fun z => PyData.eqv z d))) H
theorem op_inT (hu : X.A.units + 65 < cLine) : OpR X (compareOp .In) (rInT X.K fun b => b) := by
  intro pins s σ H x y v u Q I rx ry h
  obtain ⟨d, ds, hd, he, sd, se, q⟩ := h
  obtain ⟨as, r1⟩ := Dp.reads I d x v hd rx
  obtain ⟨bs, r2⟩ := Dp.reads I (.tuple ds) y u he ry
  exact SeqAt.in_tuple_reads r2 r1 (SeqAt.canLay_of_shaped se) (SeqAt.canLay_of_shaped sd) (PyProof.Rows.room_in_shaped sd hu) ⟨.bl _, H, I, rfl, q⟩
theorem op_notInT (hu : X.A.units + 65 < cLine) : OpR X (compareOp .NotIn) (rInT X.K fun b => !b) := by
  intro pins s σ H x y v u Q I rx ry h
  obtain ⟨d, ds, hd, he, sd, se, q⟩ := h
  obtain ⟨as, r1⟩ := Dp.reads I d x v hd rx
  obtain ⟨bs, r2⟩ := Dp.reads I (.tuple ds) y u he ry
  exact SeqAt.notIn_tuple_reads r2 r1 (SeqAt.canLay_of_shaped se) (SeqAt.canLay_of_shaped sd) (PyProof.Rows.room_in_shaped sd hu) ⟨.bl _, H, I, rfl, q⟩
theorem toPys_any (d : D) (hd : d.flatD = true) : ∀ (xs : List D), D.flatDs xs = true → ((toPys xs).any fun z => PyData.eqv z (toPy d)) = xs.any fun z => eqD z d
  | [], _ => rfl
  | x :: r, h => by
    simp only [D.flatDs, Bool.and_eq_true] at h
    simp only [toPys, List.any_cons, toPy_eqv x d h.1 hd, toPys_any d hd r h.2]
theorem in_core {op : CmpOp} {f : Bool → Bool} (h1 : OpR X (compareOp op) (fun x y H Q => ∃ (c : Nat) (z : Str), x = .str ⟨#[c]⟩ ∧ y = .str z ∧ Q (.bl (f (decide (c ∈ z.cps.toList)))) H))
    (h2 : OpR X (compareOp op) (fun x y H Q => ∃ p xs, y = .ref p ∧ (SqL X.K H p xs ∨ SqT X.K H p xs) ∧ flatV x = true ∧ xs.all flatV = true ∧ Q (.bl (f (inV x xs))) H))
    (h3 : OpR X (compareOp op) (fun x y H Q => ∃ a o, y = .ref a ∧ DGet H a x o ∧ Q (.bl (f o.isSome)) H)) (h4 : OpR X (compareOp op) (rInT X.K f)) :
    OpR X (compareOp op) (rB2 X.K fun a b => do let x ← inD a b; .ok (f x)) := by
  intro pins s σ H x y v u Q I rx ry h
  obtain ⟨O, d1, d2, b, al, r1, r2, e, q⟩ := h
  dsimp only at e
  cases d2 with
  | str z =>
    cases d1 with
    | str w =>
      match w, r1, e with
      | [c], r1, e =>
        cases e
        exact h1 pins s σ H x y v u Q I rx ry ⟨c, toS z, (rb_str r1).1, (rb_str r2).1, q⟩
      | [], _, e => cases e
      | _ :: _ :: _, _, e => cases e
    | _ => cases e
  | tup xs =>
    have e' : inD d1 (.tup xs) = if d1.sc && xs.all D.sc then .ok (xs.any fun z => eqD z d1) else if eqOk d1 (.tup xs) then .ok (xs.any fun z => eqD z d1) else .no := by
      cases d1 with
      | str w => cases w with
        | nil => rfl
        | cons c w => cases w <;> rfl
      | _ => rfl
    rw [e'] at e
    split at e
    · rename_i hc
      rw [Bool.and_eq_true] at hc
      cases e
      obtain ⟨a, vs, ey, sq, _, r⟩ := rb_tup r2
      obtain ⟨k1, k2⟩ := scs_V r1 hc.1 r hc.2
      exact h2 pins s σ H x y v u Q I rx ry ⟨a, vs, ey, .inr sq, sc_V r1 hc.1, k1, by rw [k2]; exact q⟩
    · split at e
      · rename_i hc
        cases e
        obtain ⟨f1, f2, g1, g2⟩ := eqOk_iff hc
        obtain ⟨p1, s1⟩ := rb_dp f1 g1 r1
        obtain ⟨p2, s2⟩ := rb_dp f2 g2 r2
        have ep : toPy (.tup xs) = .tuple (toPys xs) := by simp only [toPy]
        rw [ep] at p2 s2
        refine h4 pins s σ H x y v u Q I rx ry ⟨_, _, p1, p2, s1, s2, ?_⟩
        rw [toPys_any d1 f1 xs (by simpa [D.flatD] using f2)]; exact q
      · cases e
  | lst xs =>
    have e' : inD d1 (.lst xs) = if d1.sc && xs.all D.sc then .ok (xs.any fun z => eqD z d1) else .no := by
      cases d1 with
      | str w => cases w with
        | nil => rfl
        | cons c w => cases w <;> rfl
      | _ => rfl
    rw [e'] at e
    split at e
    · rename_i hc
      rw [Bool.and_eq_true] at hc
      cases e
      obtain ⟨a, vs, ey, sq, _, r⟩ := rb_lst r2
      obtain ⟨k1, k2⟩ := scs_V r1 hc.1 r hc.2
      exact h2 pins s σ H x y v u Q I rx ry ⟨a, vs, ey, .inl (SqL.of sq), sc_V r1 hc.1, k1, by rw [k2]; exact q⟩
    · cases e
  | dk ks vs =>
    have e' : inD d1 (.dk ks vs) = match d1.ky with | some k => .ok (look k ks vs).isSome | none => .no := by
      cases d1 with
      | str w => cases w with
        | nil => rfl
        | cons c w => cases w <;> rfl
      | _ => rfl
    rw [e'] at e
    cases hk : d1.ky with
    | none => rw [hk] at e; cases e
    | some k =>
      rw [hk] at e
      cases e
      obtain ⟨a, kvs, ey, sq, em, _, _, _, r⟩ := r2
      obtain ⟨ex, _⟩ := kyD_of r1 hk
      refine h3 pins s σ H x y v u Q I rx ry ⟨a, valV kvs (kyV k), ey, ?_, ?_⟩
      · rw [ex]; exact DGet.k sq
      · rcases look_val k em r with ⟨z1, z2⟩ | ⟨d', v', z1, z2, _⟩
        · rw [z2]; rw [z1] at q; exact q
        · rw [z2]; rw [z1] at q; exact q
  | _ =>
    cases d1 with
    | str w => match w, e with
      | [], e => cases e
      | [_], e => cases e
      | _ :: _ :: _, e => cases e
    | _ => cases e
theorem op_inDD (hu : X.A.units + 1 < cLine) (hu5 : X.A.units + 65 < cLine) : OpR X (compareOp .In) (rB2 X.K (cmD .inn)) := by
  have h := in_core (X := X) (op := .In) (f := fun b => b) op_in_sign op_in_seq (op_in_d (b := true) hu) (op_inT hu5)
  intro pins s σ H x y v u Q I rx ry ⟨O, d1, d2, b, al, r1, r2, e, q⟩
  refine h pins s σ H x y v u Q I rx ry ⟨O, d1, d2, b, al, r1, r2, ?_, q⟩
  have e' : inD d1 d2 = .ok b := e
  dsimp only
  rw [e']; rfl
theorem op_ninDD (hu : X.A.units + 1 < cLine) (hu5 : X.A.units + 65 < cLine) : OpR X (compareOp .NotIn) (rB2 X.K (cmD .nin)) := by
  have h := in_core (X := X) (op := .NotIn) (f := fun b => !b) op_notIn_sign op_notIn_seq (op_nin_d hu) (op_notInT hu5)
  intro pins s σ H x y v u Q I rx ry ⟨O, d1, d2, b, al, r1, r2, e, q⟩
  exact h pins s σ H x y v u Q I rx ry ⟨O, d1, d2, b, al, r1, r2, e, q⟩
end
end MT
end
section
set_option Elab.async false
set_option linter.all false
set_option maxRecDepth 100000
set_option maxHeartbeats 4000000
/-! MtF: subscripts, slices, built-ins, methods, by data. -/
namespace MT
open PySem PySem.Spec L2
variable [Pw]
open PyProof.Rows (subscriptTail)
section
variable {X : Cx}
/-- a value out of a thing -/
def rX2 (K : PySem.W.Frag) (g : D → D → R D) : R2 := fun x y H Q => ∃ O d1 d2 d, AllocO O H ∧ Rb K H O d1 x ∧ Rb K H O d2 y ∧ g d1 d2 = .ok d ∧ ∀ v, Rp K H O d v → Q v H
theorem atO_eq {α : Type} (xs : List α) (i : Int) : atO xs i = atI xs i := rfl
theorem atO_rps {K : PySem.W.Frag} {H : Hp} {O : Addr → Prop} {ds : List D} {vs : List V} {i : Int} {d : D} (r : Rps K H O ds vs) (e : atO ds i = some d) : ∃ v, atI vs i = some v ∧ Rp K H O d v := by
  have hl := r.len
  unfold atO at e
  unfold atI
  rw [← hl]
  have : ixN ds.length i = ixO ds.length i := rfl
  rw [this]
  cases hj : ixO ds.length i with
  | none => rw [hj] at e; cases e
  | some j =>
    rw [hj] at e
    exact r.get e
theorem ofO_ok {α : Type} {o : Option α} {a : α} (h : ofO o = .ok a) : o = some a := by
  cases o with
  | none => cases h
  | some b => cases h; rfl
theorem ix_dict (hu : X.A.units + 1 < cLine) : IxR X (fun x y H Q => ∃ a v, x = .ref a ∧ DGet H a y (some v) ∧ Q v H) := by
  intro value slice pins s σ H x y v u Q I rx ry h hs
  obtain ⟨a, w, rfl, g, q⟩ := h
  cases rx
  have hT := dict_typeIs I g
  unfold subscriptTail
  refine wpAny_bind ?_
  rw [getitemInPython_of_ne hT.not_modules]
  refine wpAny_bind (wpAny_specialOf hT PySem.F.slot_dict_getitem.lookup ?_)
  have fin : wpAny (model X.prog X.w) X.A (subscripted slice false (.ref a) u) (fun r s₃ => wpAny (model X.prog X.w) X.A (letTemporaryGo value (.ref a) r >>= fun _ => pure r) (EP X pins σ Q) X.xe s₃) X.xe s := by
    rw [hs]
    exact wpAny_operating (d_getItem hu I g ry fun w' s3 I3 rw' => wpAny_bind (wpAny_letTemporaryGo (wpAny_pure ⟨w, H, I3, rw', q⟩)))
  first
    | exact wpAny_pure (wpAny_bind fin)
    | exact wpAny_bind (wpAny_pure (wpAny_bind fin))
    | exact wpAny_bind fin
theorem ix_D (hu : X.A.units + 1 < cLine) : IxR X (rX2 X.K idxD) := by
  intro value slice pins s σ H x y v u Q I rx ry h hs
  obtain ⟨O, d1, d2, d, al, r1, r2, e, q⟩ := h
  cases d1 with
  | tup xs =>
    cases d2 with
    | int i =>
      obtain ⟨a, vs, e1, sq, _, r⟩ := rb_tup r1
      obtain ⟨w, h1, h2⟩ := atO_rps r (ofO_ok e)
      exact ix_tup value slice pins s σ H x y v u Q I rx ry ⟨a, vs, i, w, e1, rb_int r2, sq, h1, q w h2⟩ hs
    | _ => cases e
  | lst xs =>
    cases d2 with
    | int i =>
      obtain ⟨a, vs, e1, sq, _, r⟩ := rb_lst r1
      obtain ⟨w, h1, h2⟩ := atO_rps r (ofO_ok e)
      exact ix_list value slice pins s σ H x y v u Q I rx ry ⟨a, vs, i, w, e1, rb_int r2, SqL.of sq, h1, q w h2⟩ hs
    | _ => cases e
  | scr ns =>
    cases d2 with
    | int i =>
      obtain ⟨a, e1, sq, _⟩ := rb_scr r1
      simp only [idxD] at e
      cases hc : atO ns i with
      | none => rw [hc] at e; cases e
      | some c =>
        rw [hc] at e
        cases e
        refine ix_list value slice pins s σ H x y v u Q I rx ry ⟨a, _, i, .int c, e1, rb_int r2, sq, ?_, q _ rfl⟩ hs
        rw [atO_eq] at hc
        unfold atI at hc ⊢
        rw [List.length_map]
        cases hj : ixN ns.length i with
        | none => rw [hj] at hc; cases hc
        | some j =>
          rw [hj] at hc
          have hc' : ns[j]? = some c := hc
          show (ns.map V.int)[j]? = some (V.int c)
          rw [List.getElem?_map, hc']; rfl
    | _ => cases e
  | str s' =>
    cases d2 with
    | int i =>
      obtain ⟨e1, o1⟩ := rb_str r1
      simp only [idxD] at e
      cases hc : atO s' i with
      | none => rw [hc] at e; cases e
      | some c =>
        rw [hc] at e
        cases e
        refine ix_str value slice pins s σ H x y v u Q I rx ry ⟨toS s', i, c, e1, rb_int r2, ?_, hc, ?_⟩ hs
        · rw [len_toS, ← lim_eq]; exact o1.1
        · refine q _ ⟨rfl, ?_, ?_⟩
          · show 1 ≤ LIM; decide
          · intro z hz
            have : z = c := by simpa using hz
            subst this
            unfold atO at hc
            cases hj : ixO s'.length i with
            | none => rw [hj] at hc; cases hc
            | some j =>
              rw [hj] at hc
              exact o1.2 _ (List.mem_of_getElem? hc)
    | _ => cases e
  | dk ks vs =>
    have e' : (match d2.ky with | some k => ofO (look k ks vs) | none => .no) = .ok d := e
    cases hk : d2.ky with
    | none => rw [hk] at e'; cases e'
    | some k =>
      rw [hk] at e'
      have e2 := ofO_ok e'
      obtain ⟨a, kvs, ex, sq, em, _, _, _, r⟩ := r1
      obtain ⟨ey, _⟩ := kyD_of r2 hk
      rcases look_val k em r with ⟨z1, z2⟩ | ⟨d', v', z1, z2, z3⟩
      · rw [z1] at e2; cases e2
      · rw [z1] at e2; cases e2
        exact ix_dict hu value slice pins s σ H x y v u Q I rx ry ⟨a, v', ex, by rw [ey, ← z2]; exact DGet.k sq, q v' z3⟩ hs
  | _ => cases d2 <;> cases e
/-! ### slices -/
def rSlD (K : PySem.W.Frag) : V → Option Int → Option Int → Hp → VK → Prop := fun x lo hi H Q => ∃ O d1, AllocO O H ∧ Rb K H O d1 x ∧
  (match d1 with
   | .tup xs => ∀ v H', Same H H' → Nw K H H' O (.tup (cut xs lo hi)) v → Q v H'
   | .lst xs => ∀ v H', Same H H' → Nw K H H' O (.lst (cut xs lo hi)) v → Q v H'
   | .str xs => ∀ v H', Same H H' → Nw K H H' O (.str (cut xs lo hi)) v → Q v H'
   | _ => False)
theorem cut_len {α : Type} (xs : List α) (lo hi : Option Int) : (cut xs lo hi).length ≤ xs.length := by
  unfold cut
  rw [List.length_take, List.length_drop]
  omega
theorem cut_rps {K : PySem.W.Frag} {H : Hp} {O : Addr → Prop} {ds : List D} {vs : List V} (r : Rps K H O ds vs) (lo hi : Option Int) : Rps K H O (cut ds lo hi) (cutV vs lo hi) := by
  unfold cut cutV
  rw [← r.len]
  exact (r.drop _).take _
theorem sl_D : SlR X (rSlD X.K) := by
  intro pins s σ H x v vl vu lo hi sl Q I rx hs pl pu h
  obtain ⟨O, d1, al, r1, q⟩ := h
  cases d1 with
  | tup xs =>
    obtain ⟨a, vs, e1, sq, hl, r⟩ := rb_tup r1
    refine sl_tupF pins s σ H x v vl vu lo hi sl Q I rx hs pl pu ⟨a, vs, e1, sq, fun hw => ?_, fun hw p o hp ho => ?_⟩
    · refine q _ _ (Same.refl H) ⟨?_, fun h => nomatch h⟩
      have : cut xs lo hi = xs := by
        unfold cut
        rw [show sIx xs.length 0 lo = 0 by rw [r.len]; exact hw.1, show sIx xs.length xs.length hi = xs.length by rw [r.len]; exact hw.2]
        simp
      rw [this, ← e1]; exact r1
    · exact q _ _ (Same.new hp) (nw_tup hp ho (Nat.le_trans (cut_len _ _ _) hl) (cut_rps r lo hi))
  | lst xs =>
    obtain ⟨a, vs, e1, sq, hl, r⟩ := rb_lst r1
    exact sl_list pins s σ H x v vl vu lo hi sl Q I rx hs pl pu ⟨a, vs, e1, SqL.of sq, fun p hp => q _ _ (Same.new hp) (nw_lst al hp (Nat.le_trans (cut_len _ _ _) hl) (cut_rps r lo hi))⟩
  | str s' =>
    obtain ⟨e1, o1⟩ := rb_str r1
    refine sl_str pins s σ H x v vl vu lo hi sl Q I rx hs pl pu ⟨toS s', e1, by rw [len_toS, ← lim_eq]; exact o1.1, ?_⟩
    refine q _ _ (Same.refl H) ⟨⟨?_, Nat.le_trans (cut_len _ _ _) o1.1, fun c hc => ?_⟩, fun h => nomatch h⟩
    · unfold cutS cut
      rw [len_toS]; rfl
    · unfold cut at hc
      exact o1.2 c (List.mem_of_mem_drop (List.mem_of_mem_take hc))
  | _ => exact q.elim
/-! ### built-ins -/
def rDs (K : PySem.W.Frag) (g : D → R D) : List V → Hp → VK → Prop := fun xs H Q => ∃ O d1 x d, AllocO O H ∧ xs = [x] ∧ Rb K H O d1 x ∧ g d1 = .ok d ∧ ∀ v H', Same H H' → Nw K H H' O d v → Q v H'
theorem cl_len : CallR X (.builtin "len") (rDs X.K (bltD .len)) := by
  intro pins s σ H xs us Q I r h
  obtain ⟨O, d1, x, d, al, rfl, r1, e, q⟩ := h
  have fin : ∀ n : Nat, d = .int n → Q (.int n) H := fun n z => by subst z; exact q _ _ (Same.refl H) (nw_int _)
  cases d1 with
  | tup ys =>
    cases e
    obtain ⟨a, vs, e1, sq, hl, rr⟩ := rb_tup r1
    subst e1
    exact call_len pins s σ H _ us Q I r ⟨_, vs.length, rfl, .inr ⟨vs, sq, rfl⟩, fin _ (by rw [rr.len])⟩
  | lst ys =>
    cases e
    obtain ⟨a, vs, e1, sq, hl, rr⟩ := rb_lst r1
    subst e1
    exact call_len pins s σ H _ us Q I r ⟨_, vs.length, rfl, .inl ⟨vs, SqL.of sq, rfl⟩, fin _ (by rw [rr.len])⟩
  | scr ns =>
    cases e
    obtain ⟨a, e1, sq, hl⟩ := rb_scr r1
    subst e1
    exact call_len pins s σ H _ us Q I r ⟨_, ns.length, rfl, .inl ⟨_, sq, by rw [List.length_map]⟩, fin _ rfl⟩
  | str s' =>
    cases e
    obtain ⟨e1, o1⟩ := rb_str r1
    subst e1
    exact call_len pins s σ H _ us Q I r ⟨_, (toS s').length, rfl, ⟨by rw [len_toS, ← lim_eq]; exact o1.1, rfl⟩, fin _ (by rw [len_toS])⟩
  | _ => cases e
theorem cl_all (hc : X.calm = true) : CallR X (.builtin "all") (rDs X.K (bltD .all)) := by
  intro pins s σ H xs us Q I r h
  obtain ⟨O, d1, x, d, al, rfl, r1, e, q⟩ := h
  cases d1 with
  | lst ys =>
    obtain ⟨a, vs, e1, sq, hl, rr⟩ := rb_lst r1
    subst e1
    simp only [bltD] at e
    cases hb : bools ys with
    | none => rw [hb] at e; cases e
    | some bs =>
      rw [hb] at e
      cases e
      have hv := rr.bools hb
      subst hv
      exact cr_all hc pins s σ H _ us Q I r ⟨a, bs, rfl, SqL.of sq, q _ _ (Same.refl H) (nw_bl _)⟩
  | _ => cases e
theorem cl_any (hc : X.calm = true) : CallR X (.builtin "any") (rDs X.K (bltD .any)) := by
  intro pins s σ H xs us Q I r h
  obtain ⟨O, d1, x, d, al, rfl, r1, e, q⟩ := h
  cases d1 with
  | lst ys =>
    obtain ⟨a, vs, e1, sq, hl, rr⟩ := rb_lst r1
    subst e1
    simp only [bltD] at e
    cases hb : bools ys with
    | none => rw [hb] at e; cases e
    | some bs =>
      rw [hb] at e
      cases e
      have hv := rr.bools hb
      subst hv
      exact cr_any hc pins s σ H _ us Q I r ⟨a, bs, rfl, SqL.of sq, q _ _ (Same.refl H) (nw_bl _)⟩
  | _ => cases e
theorem cl_tuple : CallR X (.type "tuple") (rDs X.K (bltD .tuple)) := by
  intro pins s σ H xs us Q I r h
  obtain ⟨O, d1, x, d, al, rfl, r1, e, q⟩ := h
  cases d1 with
  | lst ys =>
    cases e
    obtain ⟨a, vs, e1, sq, hl, rr⟩ := rb_lst r1
    subst e1
    exact call_tupleF pins s σ H _ us Q I r ⟨a, vs, rfl, .inl ⟨SqL.of sq, fun l o hl' ho => q _ _ (Same.new hl') (nw_tup hl' ho hl rr)⟩⟩
  | tup ys =>
    cases e
    obtain ⟨a, vs, e1, sq, hl, rr⟩ := rb_tup r1
    have r1' : Rp X.K H O (.tup ys) x := r1
    subst e1
    exact call_tupleF pins s σ H _ us Q I r ⟨a, vs, rfl, .inr ⟨sq, q _ _ (Same.refl H) ⟨r1', fun h => nomatch h⟩⟩⟩
  | _ => cases e
theorem rps_keys {K : PySem.W.Frag} {H : Hp} {O : Addr → Prop} : ∀ {ks : List Ky}, (∀ k ∈ ks, okK k) → Rps K H O (ks.map kyD) ((ks.map kyV).map kV)
  | [], _ => Rps.nil
  | .i n :: r, h => Rps.cons (show Rp K H O (.int n) (.int n) from rfl) (rps_keys fun k hk => h k (List.mem_cons_of_mem _ hk))
  | .s x :: r, h => Rps.cons (show Rp K H O (.str x) (.str (toS x)) from ⟨rfl, h (.s x) List.mem_cons_self⟩) (rps_keys fun k hk => h k (List.mem_cons_of_mem _ hk))
theorem cl_list (hc : X.calm = true) : CallR X (.type "list") (rDs X.K (bltD .list)) := by
  intro pins s σ H xs us Q I r h
  obtain ⟨O, d1, x, d, al, rfl, r1, e, q⟩ := h
  cases d1 with
  | lst ys =>
    cases e
    obtain ⟨a, vs, e1, sq, hl, rr⟩ := rb_lst r1
    subst e1
    exact call_list_of pins s σ H _ us Q I r ⟨a, vs, rfl, .inl (SqL.of sq), fun l hl' => q _ _ (Same.new hl') (nw_lst al hl' hl rr)⟩
  | tup ys =>
    cases e
    obtain ⟨a, vs, e1, sq, hl, rr⟩ := rb_tup r1
    subst e1
    exact call_list_of pins s σ H _ us Q I r ⟨a, vs, rfl, .inr sq, fun l hl' => q _ _ (Same.new hl') (nw_lst al hl' hl rr)⟩
  | dk ks ds =>
    cases e
    obtain ⟨a, kvs, rfl, hd, hk, hl, hok, _, _⟩ := r1
    refine call_listD hc pins s σ H _ us Q I r ⟨a, kvs, rfl, .inl hd, fun l hl' => q _ _ (Same.new hl') (nw_lst al hl' (by rw [List.length_map]; exact hl) ?_)⟩
    have e : (kvs.map fun kv => kV kv.1) = (kvs.map (·.1)).map kV := by rw [List.map_map]; rfl
    rw [e, hk]
    exact rps_keys hok
  | _ => cases e
/-- str -/
theorem intS_eq (i : Int) : (Str.ofString (toString i) : Str) = toS (intS i) := by
  rw [Str.ofString_eq_toList]
  unfold intS natS
  cases i with
  | ofNat n =>
    have h : ¬ ((Int.ofNat n : Int) < 0) := by simp
    rw [if_neg h, show toString (Int.ofNat n) = String.ofList (Nat.toDigits 10 n) from rfl, String.toList_ofList]
    rfl
  | negSucc n =>
    have h : ((Int.negSucc n : Int) < 0) := Int.negSucc_lt_zero n
    rw [if_pos h, show toString (Int.negSucc n) = "-" ++ String.ofList (Nat.toDigits 10 (n + 1)) from rfl, String.toList_append, String.toList_ofList, String.toList_ofList]
    rfl
theorem okS_int (i : Int) (h : i.natAbs < 2 ^ 1900) : okS (intS i) := by
  have e := intS_eq i
  have hl : i.natAbs.log2 < 1920 := by
    by_cases h0 : i.natAbs = 0
    · rw [h0]; decide
    · rw [Nat.log2_lt h0]
      exact Nat.lt_of_lt_of_le h (Nat.pow_le_pow_right (by decide) (by decide))
  refine ⟨?_, fun c hc => ?_⟩
  · have := int_text_fits hl
    rw [e, len_toS, ← lim_eq] at this
    exact this
  · have hm : c ∈ (Str.ofString (toString i)).cps.toList := by rw [e]; exact hc
    rw [Str.ofString_eq_toList] at hm
    obtain ⟨ch, _, rfl⟩ := List.mem_map.mp (by simpa using hm)
    have := ch.valid
    unfold Char.toNat
    rcases this with z | z
    · omega
    · have := z.2; omega
theorem cl_str : CallR X (.type "str") (rDs X.K (bltD .str)) := by
  intro pins s σ H xs us Q I r h
  obtain ⟨O, d1, x, d, al, rfl, r1, e, q⟩ := h
  cases d1 with
  | int i =>
    simp only [bltD] at e
    split at e
    · rename_i hc
      cases e
      rw [rb_int r1] at r
      refine call_str_int pins s σ H _ us Q I r ⟨i, rfl, ?_, ?_⟩
      · by_cases h0 : i.natAbs = 0
        · rw [h0]; decide
        · rw [Nat.log2_lt h0]
          exact Nat.lt_of_lt_of_le hc (Nat.pow_le_pow_right (by decide) (by decide))
      · show Q (.str (Str.ofString (toString i))) H
        rw [intS_eq]; exact q _ _ (Same.refl H) (nw_str (okS_int i hc))
    · cases e
  | str t =>
    cases e
    obtain ⟨e1, o1⟩ := rb_str r1
    rw [e1] at r
    exact SkE.call_str_str pins s σ H _ us Q I r ⟨_, rfl, q _ _ (Same.refl H) (nw_str o1)⟩
  | _ => cases e
theorem cl_int : CallR X (.type "int") (rDs X.K (bltD .int)) := by
  intro pins s σ H xs us Q I r h
  obtain ⟨O, d1, x, d, al, rfl, r1, e, q⟩ := h
  cases d1 with
  | bl b =>
    cases e
    rw [rb_bl r1] at r
    exact call_int1 pins s σ H _ us Q I r (.inr ⟨b, rfl, q _ _ (Same.refl H) (by unfold MT.b2i; exact nw_int _)⟩)
  | int b =>
    cases e
    rw [rb_int r1] at r
    exact call_int1 pins s σ H _ us Q I r (.inl ⟨b, rfl, q _ _ (Same.refl H) (nw_int _)⟩)
  | _ => cases e
theorem cl_abs : CallR X (.builtin "abs") (rDs X.K (bltD .abs)) := by
  intro pins s σ H xs us Q I r h
  obtain ⟨O, d1, x, d, al, rfl, r1, e, q⟩ := h
  cases d1 with
  | int b =>
    cases e
    rw [rb_int r1] at r
    exact call_abs pins s σ H _ us Q I r ⟨b, rfl, q _ _ (Same.refl H) (nw_int _)⟩
  | _ => cases e
end
end MT
end
section
set_option Elab.async false
set_option linter.all false
set_option maxRecDepth 100000
set_option maxHeartbeats 4000000
/-! MtG: methods of texts and dicts, isinstance, truth, by data. -/
namespace MT
open PySem PySem.Spec L2
variable [Pw]
section
variable {X : Cx}
/-! ### texts -/
theorem pre_eq (S l : List Nat) : preS S l = TL.pre S l := by
  unfold preS TL.pre
  by_cases h : l.take S.length = S
  · rw [decide_eq_true h, beq_iff_eq.mpr h]
  · rw [decide_eq_false h]; exact (beq_eq_false_iff_ne.mpr h).symm
theorem par_eq (S : List Nat) : ∀ (l acc : List Nat), parS S acc l = TL.par S acc l
  | [], acc => rfl
  | c :: r, acc => by
    unfold parS TL.par
    rw [pre_eq, par_eq S r]
theorem spl_eq (S : List Nat) : ∀ (l : List Nat) (k : Nat) (acc : List Nat), splS S k acc l = TL.spl S k acc l
  | [], k, acc => by cases k <;> rfl
  | c :: r, 0, acc => by
    unfold splS TL.spl
    rw [pre_eq, spl_eq S r, spl_eq S r]
  | c :: r, k + 1, acc => by
    unfold splS TL.spl
    rw [spl_eq S r]
theorem join_eqS (S : List Nat) : ∀ l : List (List Nat), joinS S l = TL.joinL S l
  | [] => rfl
  | [p] => rfl
  | p :: q :: r => by
    unfold joinS TL.joinL
    rw [join_eqS S (q :: r)]
theorem parS_parts (S : List Nat) : ∀ (l acc x y : List Nat), parS S acc l = some (x, y) → (∃ m, x = acc ++ m ∧ l = m ++ S ++ y)
  | [], acc, x, y, h => by simp [parS] at h
  | c :: r, acc, x, y, h => by
    unfold parS at h
    split at h
    · rename_i hp
      unfold preS at hp
      have hp := of_decide_eq_true hp
      simp only [Option.some.injEq, Prod.mk.injEq] at h
      obtain ⟨rfl, rfl⟩ := h
      refine ⟨[], by simp, ?_⟩
      rw [List.nil_append]
      conv => lhs; rw [← List.take_append_drop S.length (c :: r)]
      rw [hp]
    · obtain ⟨m, h1, h2⟩ := parS_parts S r _ x y h
      exact ⟨c :: m, by rw [h1]; simp, by rw [h2]; simp⟩
theorem okS_nil : okS [] := ⟨Nat.zero_le _, fun _ h => nomatch h⟩
theorem okS_sub {s t : List Nat} (h : okS s) (hl : t.length ≤ s.length) (hm : ∀ c ∈ t, c ∈ s) : okS t := ⟨Nat.le_trans hl h.1, fun c hc => h.2 c (hm c hc)⟩
def rM1 (K : PySem.W.Frag) (g : List Nat → D → R D) : V → List V → Hp → VK → Prop := fun x xs H Q => ∃ O d1 d2 y d, AllocO O H ∧ xs = [y] ∧ Rb K H O (.str d1) x ∧ Rb K H O d2 y ∧ g d1 d2 = .ok d ∧ ∀ v H', Same H H' → Nw K H H' O d v → Q v H'
theorem m_partition : MtR X "str.partition" (rM1 X.K (mthD .partition)) := by
  intro pins s σ H x xs v us Q I rx rs h
  obtain ⟨O, a, d2, y, d, al, rfl, r1, r2, e, q⟩ := h
  · cases d2 with
    | str b =>
      obtain ⟨e1, o1⟩ := rb_str r1
      obtain ⟨e2, o2⟩ := rb_str r2
      simp only [mthD] at e
      split at e
      · cases e
      · rename_i hb
        have hne : b ≠ [] := fun z => hb (by rw [z]; rfl)
        refine mt_partF pins s σ H x _ v us Q I rx rs ⟨toS a, toS b, e1, by rw [e2], ?_, by rw [len_toS, ← lim_eq]; exact o1.1, fun p o hp ho => ?_⟩
        · rw [len_toS]
          cases b with
          | nil => exact absurd rfl hne
          | cons c r => rfl
        · have hp' := TL.partition_par (toS a) (toS b) hne
          have hpar : TL.par (TL.tl (toS b)) [] (TL.tl (toS a)) = parS b [] a := (par_eq b a []).symm
          rw [hpar] at hp'
          split at e
          · rename_i l xx yy hm
            rw [hm] at hp'
            cases e
            obtain ⟨m, h1, h2⟩ := parS_parts b a [] xx yy hm
            have hx : okS xx := okS_sub o1 (by rw [h2, h1]; simp <;> omega) (fun c hc => by rw [h2]; rw [h1] at hc; simp at hc ⊢; exact .inl hc)
            have hy : okS yy := okS_sub o1 (by rw [h2]; simp <;> omega) (fun c hc => by rw [h2]; simp; exact .inr (.inr hc))
            rw [hp']
            exact q _ _ (Same.new hp) (nw_tup hp ho (by show 3 ≤ LIM; decide) (Rps.cons ⟨rfl, hx⟩ (Rps.cons ⟨rfl, o2⟩ (Rps.cons ⟨rfl, hy⟩ Rps.nil))))
          · rename_i l hm
            rw [hm] at hp'
            cases e
            rw [hp']
            exact q _ _ (Same.new hp) (nw_tup hp ho (by show 3 ≤ LIM; decide) (Rps.cons ⟨rfl, o1⟩ (Rps.cons ⟨rfl, okS_nil⟩ (Rps.cons ⟨rfl, okS_nil⟩ Rps.nil))))
    | _ => cases e

theorem splS_parts (S : List Nat) : ∀ (l : List Nat) (k : Nat) (acc : List Nat), ∀ p ∈ splS S k acc l, p.length ≤ acc.length + l.length ∧ ∀ c ∈ p, c ∈ acc ∨ c ∈ l
  | [], k, acc, p, h => by
    have : p = acc := by cases k <;> simpa [splS] using h
    subst this
    exact ⟨by simp, fun c hc => .inl hc⟩
  | c :: r, 0, acc, p, h => by
    unfold splS at h
    split at h
    · rcases List.mem_cons.mp h with rfl | h
      · exact ⟨by simp, fun c hc => .inl hc⟩
      · obtain ⟨h1, h2⟩ := splS_parts S r _ [] p h
        exact ⟨by simp at h1 ⊢; omega, fun x hx => .inr (List.mem_cons_of_mem _ ((h2 x hx).resolve_left (by simp)))⟩
    · obtain ⟨h1, h2⟩ := splS_parts S r _ _ p h
      refine ⟨by simp at h1 ⊢; omega, fun x hx => ?_⟩
      rcases h2 x hx with z | z
      · rcases List.mem_append.mp z with z | z
        · exact .inl z
        · exact .inr (by simp at z; simp [z])
      · exact .inr (List.mem_cons_of_mem _ z)
  | c :: r, k + 1, acc, p, h => by
    unfold splS at h
    obtain ⟨h1, h2⟩ := splS_parts S r _ _ p h
    exact ⟨by simp at h1 ⊢; omega, fun x hx => (h2 x hx).imp id (List.mem_cons_of_mem _)⟩
theorem splS_len (S : List Nat) : ∀ (l : List Nat) (k : Nat) (acc : List Nat), (splS S k acc l).length ≤ l.length + 1
  | [], k, acc => by cases k <;> simp [splS]
  | c :: r, 0, acc => by
    unfold splS
    have h1 := splS_len S r (S.length - 1) []
    have h2 := splS_len S r 0 (acc ++ [c])
    split <;> simp <;> omega
  | c :: r, k + 1, acc => by
    unfold splS
    have h1 := splS_len S r k acc
    simp; omega
theorem m_split : MtR X "str.split" (rM1 X.K (mthD .split)) := by
  intro pins s σ H x xs v us Q I rx rs h
  obtain ⟨O, a, d2, y, d, al, rfl, r1, r2, e, q⟩ := h
  · cases d2 with
    | str b =>
      match b, r2, e with
      | [], _, e => cases e
      | _ :: _ :: _, _, e => cases e
      | [c], r2, e =>
        obtain ⟨e1, o1⟩ := rb_str r1
        obtain ⟨e2, o2⟩ := rb_str r2
        simp only [mthD] at e
        split at e
        · rename_i hl
          cases e
          refine mt_split pins s σ H x _ v us Q I rx rs ⟨toS a, toS [c], e1, by rw [e2], rfl, by rw [len_toS, ← lim_eq]; exact hl.1, fun p hp => ?_⟩
          have hsp : Txt.split (toS a) (toS [c]) = (splS [c] 0 [] a).map toS := by
            apply TL.map_tl_inj
            rw [TL.split_spl (toS a) (toS [c]) (by intro z; cases z) (TL.kind_ok (by simp [hl.2])), ← spl_eq, List.map_map]
            show _ = List.map (fun z => z) _
            rw [List.map_id']
          rw [hsp]
          refine q _ _ (Same.new hp) (nw_lst al hp ?_ (Rps.ofStrs fun t ht => ?_))
          · rw [List.length_map]
            have := splS_len [c] a 0 []
            omega
          · obtain ⟨h1, h2⟩ := splS_parts [c] a 0 [] t ht
            exact okS_sub o1 (by simpa using h1) (fun z hz => (h2 z hz).resolve_left (by simp))
        · cases e
    | _ => cases e
theorem joinS_len (S : List Nat) : ∀ l : List (List Nat), (joinS S l).length ≤ (l.map (·.length)).sum + l.length * S.length
  | [] => by simp [joinS]
  | [p] => by simp [joinS]
  | p :: q :: r => by
    have ih := joinS_len S (q :: r)
    unfold joinS
    simp only [List.length_append, List.map_cons, List.sum_cons, List.length_cons, Nat.add_mul, Nat.one_mul] at ih ⊢
    omega
theorem joinS_mem (S : List Nat) : ∀ (l : List (List Nat)) (c : Nat), c ∈ joinS S l → c ∈ S ∨ ∃ p ∈ l, c ∈ p
  | [], c, h => by simp [joinS] at h
  | [p], c, h => .inr ⟨p, by simp, by simpa [joinS] using h⟩
  | p :: q :: r, c, h => by
    unfold joinS at h
    rcases List.mem_append.mp h with h | h
    · exact .inr ⟨p, by simp, h⟩
    · rcases List.mem_append.mp h with h | h
      · exact .inl h
      · rcases joinS_mem S (q :: r) c h with z | ⟨t, ht, z⟩
        · exact .inl z
        · exact .inr ⟨t, List.mem_cons_of_mem _ ht, z⟩
theorem m_join : MtR X "str.join" (rM1 X.K (mthD .join)) := by
  intro pins s σ H x xs v us Q I rx rs h
  obtain ⟨O, a, d2, y, d, al, rfl, r1, r2, e, q⟩ := h
  · cases d2 with
    | lst b =>
      obtain ⟨e1, o1⟩ := rb_str r1
      obtain ⟨p, vs, e2, sq, hl, rr⟩ := rb_lst r2
      simp only [mthD] at e
      cases hb : strsO b with
      | none => rw [hb] at e; cases e
      | some ss =>
        rw [hb] at e
        simp only [ofO, ok_bind] at e
        split at e
        · rename_i hz
          cases e
          obtain ⟨hv, _, hok⟩ := rr.strs hb
          subst hv
          refine mt_join pins s σ H x _ v us Q I rx rs ⟨toS a, p, ss.map toS, e1, by rw [e2], .inl (SqL.of sq), ?_, ?_⟩
          · rw [List.map_map, List.length_map, len_toS]
            have : (Str.length ∘ toS) = fun z => z.length := funext len_toS
            show ((ss.map (Str.length ∘ toS)).sum + _ ≤ _)
            rw [this]; exact hz
          · have hj : Txt.join (toS a) (ss.map toS) = toS (joinS a ss) := by
              rw [TL.join_eq]
              apply TL.ext_tl
              rw [TL.tl_join, List.map_map, join_eqS]
              show TL.joinL a (List.map (fun z => z) ss) = _
              rw [List.map_id']
            rw [hj]
            refine q _ _ (Same.refl H) (nw_str ⟨?_, fun c hc => ?_⟩)
            · exact Nat.le_trans (joinS_len a ss) hz
            · rcases joinS_mem a ss c hc with z | ⟨t, ht, z⟩
              · exact o1.2 c z
              · exact (hok t ht).2 c z
        · cases e
    | _ => cases e
/-! ### truth -/
theorem tru_D {K : PySem.W.Frag} {H : Hp} {O : Addr → Prop} {d : D} {v : V} {b : Bool} (r : Rb K H O d v) (e : truth d = .ok b) : TruV K v H b := by
  cases d with
  | non => rw [rb_non r]; cases e; rfl
  | bl k => rw [rb_bl r]; cases e; rfl
  | int k => rw [rb_int r]; cases e; rfl
  | str k =>
    obtain ⟨e1, o1⟩ := rb_str r
    rw [e1]
    cases e
    refine ⟨by rw [len_toS, ← lim_eq]; exact o1.1, ?_⟩
    rw [len_toS]
    cases k with
    | nil => rfl
    | cons c k =>
      show true = _
      rw [List.length_cons]
      exact (bne_iff_ne.mpr (by omega)).symm
  | tup xs =>
    obtain ⟨a, vs, rfl, sq, _, rr⟩ := rb_tup r
    cases e
    refine .inr (.inl ⟨vs, sq, ?_⟩)
    have := rr.len
    cases xs <;> cases vs <;> simp_all
  | lst xs =>
    obtain ⟨a, vs, rfl, sq, _, rr⟩ := rb_lst r
    cases e
    refine .inl ⟨vs, SqL.of sq, ?_⟩
    have := rr.len
    cases xs <;> cases vs <;> simp_all
  | _ => cases e
/-! ### isinstance -/
def tyN : Ty → List String
  | .str => ["str"] | .int => ["int"] | .bool => ["bool"] | .tuple => ["tuple"] | .list => ["list"] | .intstr => ["int", "str"]
theorem ty_X {K : PySem.W.Frag} {H : Hp} {O : Addr → Prop} {d : D} {v : V} (r : Rb K H O d v) (b : Bool) (t : Ty) (e : isiD d t = .ok b) : ∃ n, TyX K H v (.type n) ∧ ∀ m, tyN t = [m] → kitB n m = some b := by
  cases d with
  | non => rw [rb_non r]; refine ⟨"NoneType", .base .non, fun m hm => ?_⟩; cases t <;> cases e <;> cases hm <;> decide +kernel
  | bl k => rw [rb_bl r]; refine ⟨"bool", .base (.bl k), fun m hm => ?_⟩; cases t <;> cases e <;> cases hm <;> decide +kernel
  | int k => rw [rb_int r]; refine ⟨"int", .base (.int k), fun m hm => ?_⟩; cases t <;> cases e <;> cases hm <;> decide +kernel
  | str k => rw [(rb_str r).1]; refine ⟨"str", .base (.str _), fun m hm => ?_⟩; cases t <;> cases e <;> cases hm <;> decide +kernel
  | tup k =>
    obtain ⟨a, vs, rfl, sq, _, _⟩ := rb_tup r
    have : TyX K H (.ref a) (.type "tuple") := by
      rcases sq with (sq | ⟨o, sq⟩) | ⟨o, its, n, h1, h2, _⟩
      · exact .base (.tup sq)
      · exact .fTuple sq
      · exact .kTuple h1 h2
    refine ⟨"tuple", this, fun m hm => ?_⟩; cases t <;> cases e <;> cases hm <;> decide +kernel
  | lst k =>
    obtain ⟨a, vs, rfl, sq, _, _⟩ := rb_lst r
    refine ⟨"list", .base (.lst sq), fun m hm => ?_⟩; cases t <;> cases e <;> cases hm <;> decide +kernel
  | _ => cases e
theorem ty_X2 {K : PySem.W.Frag} {H : Hp} {O : Addr → Prop} {d : D} {v : V} (r : Rb K H O d v) (b : Bool) (e : isiD d .intstr = .ok b) : ∃ n b1 b2, TyX K H v (.type n) ∧ kitB n "int" = some b1 ∧ kitB n "str" = some b2 ∧ b = (b1 || b2) := by
  cases d with
  | non => cases e; rw [rb_non r]; exact ⟨"NoneType", false, false, .base .non, by decide +kernel, by decide +kernel, rfl⟩
  | bl k => cases e; rw [rb_bl r]; exact ⟨"bool", true, false, .base (.bl k), by decide +kernel, by decide +kernel, rfl⟩
  | int k => cases e; rw [rb_int r]; exact ⟨"int", true, false, .base (.int k), by decide +kernel, by decide +kernel, rfl⟩
  | str k => cases e; rw [(rb_str r).1]; exact ⟨"str", false, true, .base (.str _), by decide +kernel, by decide +kernel, rfl⟩
  | tup k =>
    cases e
    obtain ⟨a, vs, rfl, sq, _, _⟩ := rb_tup r
    have : TyX K H (.ref a) (.type "tuple") := by
      rcases sq with (sq | ⟨o, sq⟩) | ⟨o, its, n, h1, h2, _⟩
      · exact .base (.tup sq)
      · exact .fTuple sq
      · exact .kTuple h1 h2
    exact ⟨"tuple", false, false, this, by decide +kernel, by decide +kernel, rfl⟩
  | lst k =>
    cases e
    obtain ⟨a, vs, rfl, sq, _, _⟩ := rb_lst r
    exact ⟨"list", false, false, .base (.lst sq), by decide +kernel, by decide +kernel, rfl⟩
  | _ => cases e
end
end MT
end
section
set_option Elab.async false
set_option linter.all false
set_option maxRecDepth 100000
set_option maxHeartbeats 4000000
/-! MtZ: enumerate of a tuple. -/
namespace MT
open PySem PySem.Spec L2 PyProof.Rows
theorem meets_enT (l : Addr) (items : Array Value) : Meets (Builtin.«enumerate.__new__» ⟨[.type "enumerate", .ref l], []⟩) (fun _ R s => s.heap.IsTuple l items ∧
      R (.ok (.ret (.ref (s.heap.push { cls := .type "tuple_iterator", data := .fields #[.ref l, .int 0 0] }).objs.size)))
        { s with heap := (s.heap.push { cls := .type "tuple_iterator", data := .fields #[.ref l, .int 0 0] }).push { cls := .type "enumerate", data := .fields #[.none, .bool false, .ref s.heap.objs.size, rawInt 0, .none, .none] } }) :=
  .of_wp fun prog w A R s h => by
    obtain ⟨hp, g, d, tk, os⟩ := s
    obtain ⟨h1, h⟩ := h
    have hsub := sub_enumerate
    have q1 : ∀ {A' : Around} {E : Value → Shared → Prop} {Q : Value → Shared → Prop}, Q (.ref hp.objs.size) ⟨hp.push { cls := .type "tuple_iterator", data := .fields #[.ref l, .int 0 0] }, g, d, tk, os⟩ → wpAny (model prog w) A' (pyIter (.ref l)) Q E ⟨hp, g, d, tk, os⟩ :=
      fun q => (begins_tuple l items).iter prog w _ _ ⟨hp, g, d, tk, os⟩ _ h1 q
    wp_walk using q1
    refine wpAny_stack_any fun st => wpAny_pure ?_
    split
    · rename_i c _ _ _ _ _
      cases (c == Value.type "enumerate") <;> (wp_walk using q1; exact ⟨_, rfl, h⟩)
    · wp_walk using q1
      exact ⟨_, rfl, h⟩
section
variable {prog : Program} {w : World} {A : Around} {E : Value → Shared → Prop} {s : Shared}
theorem call_enT {l : Addr} {items : Array Value} {Q : Value → Shared → Prop} (hL : s.heap.IsTuple l items)
    (h : ∀ h', IsEnum h' (s.heap.objs.size + 1) s.heap.objs.size 0 .none → h'.IsTupleIter s.heap.objs.size l 0 → (∀ b o, s.heap.get? b = some o → h'.get? b = some o) → Q (.ref (s.heap.objs.size + 1)) { s with heap := h' }) :
    wpAny (model prog w) A (call (.type "enumerate") [.ref l]) Q E s := by
  refine callType_new F.called_enumerate (by decide) (F.typeCall_enumerate_1 _) (F.newCall_enumerate_1 _) (fun ob => F.args_object_init_2 ob _) F.entry_enumerate_new (meets_enT l items) ⟨hL, ?_⟩
  have hz : (s.heap.push { cls := .type "tuple_iterator", data := .fields #[.ref l, .int 0 0] }).objs.size = s.heap.objs.size + 1 := Heap.size_push ..
  show _ ∧ _
  rw [hz]
  have he : IsEnum ((s.heap.push { cls := .type "tuple_iterator", data := .fields #[.ref l, .int 0 0] }).push { cls := .type "enumerate", data := .fields #[.none, .bool false, .ref s.heap.objs.size, rawInt 0, .none, .none] }) (s.heap.objs.size + 1) s.heap.objs.size 0 .none := by
    have := Heap.get?_push_size (s.heap.push { cls := .type "tuple_iterator", data := .fields #[.ref l, .int 0 0] }) (o := { cls := .type "enumerate", data := .fields #[.none, .bool false, .ref s.heap.objs.size, rawInt 0, .none, .none] }) rfl
    rw [hz] at this; exact this
  exact ⟨⟨_, he, rfl⟩, h _ he ⟨_, Heap.get?_push_of_some _ (Heap.get?_push_size _ rfl), rfl, rfl⟩ fun b o x => Heap.get?_push_of_some _ (Heap.get?_push_of_some _ x)⟩
theorem end_enT {e it l : Addr} {i : Nat} {items : Array Value} {c : Int} {old : Value} {Q : Option Value → Shared → Prop} (hh : A.in1.handled = none) (he : IsEnum s.heap e it c old) (hit : s.heap.IsTupleIter it l i) (hl : s.heap.IsTuple l items) (hx : items[i]? = none)
    (hQ : ∀ h', Heap.ExtBut it s.heap h' → Q none { s with heap := h' }) : wpAny (model prog w) A (pyNext (.ref e)) Q E s := by
  have hT : s.TypeIs (.ref e) "enumerate" := ⟨_, he, rfl⟩
  unfold pyNext
  refine wpAny_bind (wpAny_attempt (wpAny_callSpecial?_slot (name := Str.ofString "__next__") hT F.slot_enumerate_next (wpAny_call_entry F.slot_enumerate_next hT F.entry_enumerate_next ?_ (F.args_enumerate_next_1 _))))
  show wpAny _ _ (field (.ref e) 2 >>= _) _ _ _
  refine wpAny_bind (wpAny_field he rfl (x := .ref it) rfl (wpAny_bind (wpAny_nextOf_tuple_end hh hit hl hx fun h' x he' hx' => ?_)))
  obtain ⟨o, ho, hc⟩ := hx'
  exact wpAny_bind (wpAny_isInstance (T := "StopIteration") (b := true) ⟨o, ho, hc⟩ isSubtype_stop (wpAny_pure (hQ _ he')))
end
/-- the tuple at a, the items in new pairs -/
def IteT (K : PySem.W.Frag) (a : Addr) : It :=
  ⟨fun i H => ∃ (xs : List V) (x : V), SqT K H a xs ∧ xs[i]? = some x, fun i H v H' => ∃ T x, v = .ref T ∧ H T = none ∧ H' = upd H T (.tup [.int (i : Nat), x]) ∧ ∀ xs, SqT K H a xs → xs[i]? = some x, fun i H => ∃ xs : List V, SqT K H a xs ∧ xs.length ≤ i⟩
theorem turn_enT {P : Program} {w : World} {K : PySem.W.Frag} {elts : List Expr} {kk : Nat} {tpos : Pos} (a e it : Addr) :
    Turn P w K (.Tuple elts kk tpos) (IteT K a) [e, it] e (fun i h => (∃ old, IsEnum h e it ((i : Nat) : Int) old) ∧ h.IsTupleIter it a i ∧ e ≠ it ∧ a ≠ e ∧ a ≠ it) where
  mem := by simp
  obj := fun i h st b hb => by
    obtain ⟨⟨old, he⟩, ⟨o, ho, hc, hd⟩, _⟩ := st
    have e' : b = e ∨ b = it := by simpa using hb
    rcases e' with z | z
    · rw [z]; exact ⟨_, he, fun v q => nomatch q⟩
    · rw [z]; exact ⟨o, ho, fun v q => by rw [hd] at q; cases q⟩
  keep := fun i h h' st k => let ⟨⟨old, he⟩, hi, hne⟩ := st; ⟨⟨old, k e (by simp) _ he⟩, hi.at fun o q => k it (by simp) o q, hne⟩
  item := by
    intro X hP hw hK hc i pins s σ H E I hf st hg
    subst hP hw hK
    obtain ⟨⟨old, he⟩, hit, hne, n1, n2⟩ := st
    obtain ⟨xs, x, hq, hx⟩ := hg
    obtain ⟨its, rv, p, hz⟩ := I.tuple hq
    obtain ⟨u, hu, ru⟩ := rv.get hx
    have hel : e < s.heap.objs.size := Heap.lt_size he
    have hil : it < s.heap.objs.size := by obtain ⟨_, q, _⟩ := hit; exact Heap.lt_size q
    have hh : X.A.in1.handled = none := by have := I.ok.hd hc; simpa using this
    have hin : i < its.toArray.size := by rw [List.size_toArray]; exact (List.getElem?_eq_some_iff.mp hu).1
    refine wpAny_pyNext_enum_itemC (Draws.tuple hh it a n2 its.toArray) he ⟨hit, p⟩ hin hne (by simp [hne, Ne.symm n1]) fun y h' tk hy ho st' hT hsz hk => ?_
    have ey : y = u := by
      have hy' : its.toArray[i]? = some y := hy
      rw [List.getElem?_toArray, hu] at hy'
      exact (Option.some.inj hy').symm
    subst ey
    refine ⟨_, rfl, wpAny_letOwnedTupleGo_enum (s := { s with heap := h', toks := tk + 1 }) ho fun h'' he' sb => ?_⟩
    have hT2 : h''.get? s.heap.objs.size = some { cls := .type "tuple", data := .seq #[.int i tk, y] } := (sb.2 _ (Nat.ne_of_gt hel)).trans hT
    have new : ObjOk X.prog X.w (upd H s.heap.objs.size (.tup [.int (i : Nat), x])) h'' s.heap.objs.size (.tup [.int (i : Nat), x]) :=
      ⟨by show 2 ≤ sizeLine; decide, [.int i tk, y], .cons ⟨_, rfl⟩ (.cons ru .nil), ⟨_, hT2, rfl, _, rfl⟩⟩
    have I1 : Inv X pins σ (upd H s.heap.objs.size (.tup [.int (i : Nat), x])) { s with heap := h'', toks := tk + 1 } :=
      I.turnedNew (ch := [e, it]) (fun b ob hb q => (sb.2 b (fun z => hb (by simp [z]))).trans (hk b ob (fun z => hb (by simp [z])) (fun z => hb (by simp [z])) q)) hf (Nat.le_refl _) new
    refine ⟨.ref s.heap.objs.size, _, I1, rfl, ⟨_, x, rfl, I.hok.fresh (Nat.le_refl _), rfl, fun ys hy => by rw [I.tuple_inj hy hq]; exact hx⟩, ⟨⟨y, ?_⟩, st'.1.at fun o q => (sb.2 it (Ne.symm hne)).trans q, hne, n1, n2⟩, fun b hb => ?_⟩
    · have e1 : ((i + 1 : Nat) : Int) = (i : Int) + 1 := by omega
      rw [e1]; exact he'
    · have hb' : b < s.heap.objs.size := by
        have e' : b = e ∨ b = it := by simpa using hb
        rcases e' with z | z
        · rw [z]; exact hel
        · rw [z]; exact hil
      rw [upd_ne (Nat.ne_of_lt hb')]
      exact (hf b hb).1
  done := by
    intro X hP hw hK hc i pins s σ H E I hf st hg
    subst hP hw hK
    obtain ⟨⟨old, he⟩, hit, hne, n1, n2⟩ := st
    obtain ⟨xs, hq, hx⟩ := hg
    obtain ⟨its, rv, p, hz⟩ := I.tuple hq
    obtain ⟨f0, f1, f2, f3, f4, f5⟩ := hf it (by simp)
    have hl := rv.length
    have hh : X.A.in1.handled = none := by have := I.ok.hd hc; simpa using this
    exact end_enT hh he hit p (by simp; omega) fun h' eb => ⟨rfl, I.turned (t' := s.toks) (fun b o hb q => eb b o hb q) f0 f1 f3 f4 f5⟩
  self := fun A i s Q E st h => let ⟨⟨_, he⟩, _⟩ := st; wpAny_pyIter_enum he h
def iEnT (K : PySem.W.Frag) (ta : TA) : TI := fun σ H R => ta σ H fun vs H1 => ∃ a xs, vs = [.ref a] ∧ SqT K H1 a xs ∧ R (IteT K a) H1
theorem pi_enT {X : Cx} {e : Expr} {ta : TA} {p pos tpos : Pos} {elts : List Expr} {kk : Nat} (hg : Gl X "enumerate") (hm : X.mg "enumerate" = none) (ha : PA X [e] ta) (hs : starEach [e] X.env = [(false, eval e X.env)] := by rfl) :
    PI X (.Tuple elts kk tpos) (.Call (.Name "enumerate" p) [e] [] pos) (iEnT X.K ta) := by
  refine ⟨fun pins s σ H R I h => ?_⟩
  refine Call_ (ld_blt I hg hm boot_enumerate (PyProof.Rows.callWith_type1 (thn (ha.run pos pins s σ H _ I h) fun us s1 ⟨vs, H1, I1, r1, a, xs, ex, hq, q⟩ => ?_) hs rfl))
  subst ex
  rw [Vals.ref1 r1]
  obtain ⟨its, rv, p', hz⟩ := I1.tuple hq
  have hal : a < s1.heap.objs.size := by obtain ⟨o, q, _⟩ := p'; exact Heap.lt_size q
  refine call_enT p' fun h' he hit hk => wpAny_pyIter_enum he ?_
  have I2 : Inv X pins σ H1 { s1 with heap := h' } := I1.kept (t' := s1.toks) hk
  refine ⟨s1.heap.objs.size + 1, [s1.heap.objs.size + 1, s1.heap.objs.size], _, _, H1, rfl, I2, turn_enT a (s1.heap.objs.size + 1) s1.heap.objs.size, ⟨⟨.none, he⟩, hit, Nat.succ_ne_self _, Nat.ne_of_lt (Nat.lt_succ_of_lt hal), Nat.ne_of_lt hal⟩, fun b hb => ?_, q⟩
  have hle : s1.heap.objs.size ≤ b := by
    have e' : b = s1.heap.objs.size + 1 ∨ b = s1.heap.objs.size := by simpa using hb
    rcases e' with z | z
    · rw [z]; exact Nat.le_add_right _ _
    · rw [z]; exact Nat.le_refl _
  exact I1.fpOk hle (I1.hok.fresh hle)
end MT
end
section
set_option Elab.async false
set_option linter.all false
set_option maxRecDepth 100000
set_option maxHeartbeats 4000000
/-! MtH: the readings of expressions, by data. -/
namespace MT
open PySem PySem.Spec L2
variable [Pw]
/-! ### no operation raises -/
def NX {α : Type} (m : R α) : Prop := ∀ x, m ≠ .exc x
theorem NX.ok {α : Type} (a : α) : NX (R.ok a) := fun _ h => nomatch h
theorem NX.no {α : Type} : NX (R.no : R α) := fun _ h => nomatch h
theorem NX.bind {α β : Type} {m : R α} {f : α → R β} (h : NX m) (g : ∀ a, NX (f a)) : NX (m >>= f) := by
  cases m with
  | ok a => exact g a
  | exc e => exact absurd rfl (h e)
  | no => exact NX.no
theorem NX.ite {α : Type} {c : Prop} [Decidable c] {a b : R α} (h : NX a) (g : NX b) : NX (if c then a else b) := by split <;> assumption
theorem NX.ofO {α : Type} (o : Option α) : NX (MT.ofO o) := by cases o <;> first | exact NX.ok _ | exact NX.no
theorem Run.nx {α : Type} {m : R α} {k : α → Prop} {x : Xc → Prop} (h : NX m) (r : Run m k x) : ∃ a, m = .ok a ∧ k a := by
  cases m with
  | ok a => exact ⟨a, rfl, r⟩
  | exc e => exact absurd rfl (h e)
  | no => exact r.elim
theorem nx_op2 (op : Op2) (a b : D) : NX (op2D op a b) := by
  unfold op2D
  split <;> first | exact NX.ok _ | exact NX.no | exact NX.ite (NX.ok _) NX.no
theorem nx_neg (a : D) : NX (negD a) := by unfold negD; split <;> first | exact NX.ok _ | exact NX.no
theorem nx_in (a b : D) : NX (inD a b) := by
  unfold inD
  split <;> first | exact NX.ok _ | exact NX.no | exact NX.ite (NX.ok _) (NX.ite (NX.ok _) NX.no) | exact NX.ite (NX.ok _) NX.no | (split <;> first | exact NX.ok _ | exact NX.no)
theorem nx_is (a b : D) : NX (isD a b) := by unfold isD; split <;> first | exact NX.ok _ | exact NX.no
theorem nx_geO (a b : List D) : NX (getO a b) := by
  unfold getO
  split <;> first | exact NX.ok _ | exact NX.no
theorem nx_cm (c : Cm) (a b : D) : NX (cmD c a b) := by
  unfold cmD
  split <;> first | exact nx_geO _ _ | exact NX.ok _ | exact NX.no | exact nx_in _ _ | exact nx_is _ _ | exact NX.ite (NX.ok _) NX.no | exact NX.bind (nx_in _ _) (fun _ => NX.ok _) | exact NX.bind (nx_is _ _) (fun _ => NX.ok _)
theorem nx_idx (a b : D) : NX (idxD a b) := by
  unfold idxD
  split <;> first | exact NX.ofO _ | exact NX.no | exact NX.bind (NX.ofO _) (fun _ => NX.ok _) | (split <;> first | exact NX.ofO _ | exact NX.no)
theorem nx_end (a : D) : NX (endD a) := by unfold endD; split <;> first | exact NX.ok _ | exact NX.no
theorem nx_sli (a : D) (b c : Option Int) : NX (sliD a b c) := by unfold sliD; split <;> first | exact NX.ok _ | exact NX.no
theorem nx_srtT (xs : List D) : NX (srtT xs) := by
  unfold srtT srtB
  split
  · exact NX.ite (NX.ok _) NX.no
  · split
    · exact NX.ite (NX.ok _) NX.no
    · exact NX.no
theorem nx_srtD (ks : List (List Ky)) : NX (srtD ks) := by
  unfold srtD
  split
  · exact NX.ok _
  · exact nx_srtT _
theorem nx_blt (b : Bl) (a : D) : NX (bltD b a) := by
  unfold bltD
  split <;> first | exact nx_srtD _ | exact nx_srtT _ | (split <;> first | exact NX.ite (NX.ok _) NX.no | exact nx_srtT _) | exact NX.ok _ | exact NX.no | exact NX.ite (NX.ok _) NX.no | exact NX.bind (NX.ofO _) (fun _ => NX.ok _) | exact NX.bind (NX.ofO _) (fun _ => NX.ite (NX.ok _) NX.no)
theorem nx_ssetT (xs : List D) : NX (ssetT xs) := by
  unfold ssetT
  split
  · exact NX.ite (NX.ok _) NX.no
  · exact NX.no
theorem nx_sset (xs : List D) : NX (ssetX xs) := by
  unfold ssetX
  split
  · exact NX.ite (NX.ok _) NX.no
  · split
    · exact NX.ite (NX.ok _) NX.no
    · exact nx_ssetT xs
theorem nx_u1 (u : U1) (a : D) : NX (u1D u a) := by
  unfold u1D
  split <;> first | exact nx_sset _ | exact NX.ok _ | exact NX.no | exact NX.ite (NX.ok _) NX.no | exact NX.bind (NX.ofO _) (fun _ => NX.ite (NX.ok _) NX.no)
theorem nx_u2 (u : U2) (a b : D) : NX (u2D u a b) := by
  unfold u2D
  split <;> first | exact NX.ok _ | exact NX.no | exact NX.ite (NX.bind (NX.ofO _) (fun _ => NX.ok _)) NX.no
theorem nx_mth (m : Mth) (a : List Nat) (b : D) : NX (mthD m a b) := by
  unfold mthD
  split <;> first | exact NX.no | exact NX.ite (NX.ok _) NX.no | exact NX.bind (NX.ofO _) (fun _ => NX.ite (NX.ok _) NX.no) | exact NX.ite NX.no (by split <;> exact NX.ok _)
theorem nx_get (p : List Ky × List D) (b c : D) : NX (getD3 p b c) := by unfold getD3; split <;> first | exact NX.ok _ | exact NX.no
theorem nx_strO (a : D) : NX (strO a) := by unfold strO; split <;> first | exact NX.ok _ | exact NX.no
theorem nx_dkO (a : D) : NX (dkO a) := by unfold dkO; split <;> first | exact NX.ok _ | exact NX.no
theorem nx_isi (a : D) (t : Ty) : NX (isiD a t) := by unfold isiD; split <;> first | exact NX.ok _ | exact NX.no
theorem nx_tru (a : D) : NX (truth a) := by unfold truth; split <;> first | exact NX.ok _ | exact NX.no
theorem nx_bl (a : D) : NX (blO a) := by unfold blO; split <;> first | exact NX.ok _ | exact NX.no

/-! ### readings -/
def bor (M : List Nat) : E → Bool
  | .var i => M.contains i
  | _ => false
def fresh (frf : Nat → Bool) : E → Bool
  | .u1 _ _ => true | .u2 _ _ _ => true | .lst _ => true | .dk0 => true | .dt0 => true | .bin _ _ _ => true | .sli _ _ _ => true | .blt _ _ => true | .mth _ _ _ => true | .lc _ _ _ _ _ => true
  | .call f _ => frf f
  | .calw _ _ => true
  | _ => false
abbrev XR := Xc → Value → Option Addr → Hp → Prop
/-- what the context bears: the oracle of calls, which of them give new things, how exceptions lie, what is wished of them -/
structure Cn where
  K : PySem.W.Frag
  F : Nat → List D → R D
  frf : Nat → Bool
  xr : XR
  wish : XK
section
variable (c : Cn) (M : List Nat)
/-- an exception's own dict is new -/
def Frd (H : Hp) (da : Option Addr) : Prop := ∀ d, da = some d → H d = none
def XW (H : Hp) (x : Xc) : Prop := ∀ cls da H', Same H H' → Frd H da → c.xr x cls da H' → c.wish cls da H'
theorem XW.mono {c : Cn} {H H' : Hp} (s : Same H H') {x : Xc} (h : XW c H x) : XW c H' x := fun cls da H2 s2 f r => h cls da H2 (s.trans s2) (fun d e => s.free (f d e)) r
/-- how an expression's value lies -/
def Vok (e : E) (O : Addr → Prop) (H H' : Hp) (d : D) (v : V) : Prop :=
  (bor M e = true → Rb c.K H' O d v) ∧ (bor M e = false → Rp c.K H' O d v) ∧ (fresh c.frf e = true → d.mut = true → NwT c.K H H' O d v)
def tE (e : E) : TE := fun σ H Q => ∃ H0 Oc Ts ρ, EnvOk c.K H0 Oc M Ts σ H ρ ∧ Run (ev c.F e ρ) (fun d => ∀ v H', Same H H' → Vok c M e (Ow Oc M σ) H H' d v → Q v H') (XW c H)
def tQ (e : E) : TT := fun σ H Q => ∃ H0 Oc Ts ρ, EnvOk c.K H0 Oc M Ts σ H ρ ∧ Run (tst c.F e ρ) (fun b => ∀ H', Same H H' → Q b H') (XW c H)
def tAs (es : List E) : TA := fun σ H Q => ∃ H0 Oc Ts ρ, EnvOk c.K H0 Oc M Ts σ H ρ ∧ Run (evs c.F es ρ) (fun ds => ∀ vs H', Same H H' → Rps c.K H' (Ow Oc M σ) ds vs → Q vs H') (XW c H)
end
theorem _root_.L2.PE.imp {X : Cx} {e : Expr} {t t' : TE} (h : PE X e t) (i : ∀ σ H Q, t' σ H Q → t σ H Q) : PE X e t' := ⟨fun pins s σ H Q I q => h.run pins s σ H Q I (i σ H Q q)⟩
theorem _root_.L2.PT.imp {X : Cx} {e : Expr} {t t' : TT} (h : PT X e t) (i : ∀ σ H Q, t' σ H Q → t σ H Q) : PT X e t' := ⟨fun pins s σ H Q I q => h.run pins s σ H Q I (i σ H Q q)⟩
theorem _root_.L2.PW.imp {X : Cx} {e : Expr} {t t' : TT} (h : PW X e t) (i : ∀ σ H Q, t' σ H Q → t σ H Q) : PW X e t' := ⟨fun w pins s σ H Q I q => h.run w pins s σ H Q I (i σ H Q q)⟩
theorem _root_.L2.PA.imp {X : Cx} {e : List Expr} {t t' : TA} (h : PA X e t) (i : ∀ σ H Q, t' σ H Q → t σ H Q) : PA X e t' := ⟨fun p pins s σ H Q I q => h.run p pins s σ H Q I (i σ H Q q)⟩
theorem _root_.L2.PS.imp {X : Cx} {e : Stmt} {t t' : TS} (h : PS X e t) (i : ∀ D σ H, t' D σ H → t D σ H) : PS X e t' := ⟨fun pins s σ H Q I q => h.run pins s σ H Q I (i Q σ H q)⟩
theorem _root_.L2.PSs.imp {X : Cx} {e : List Stmt} {t t' : TS} (h : PSs X e t) (i : ∀ D σ H, t' D σ H → t D σ H) : PSs X e t' := ⟨fun pins s σ H Q I q => h.run pins s σ H Q I (i Q σ H q)⟩
section
variable {c : Cn} {M : List Nat} {X : Cx} {pos : Pos}
theorem Vok.rb {e : E} {O : Addr → Prop} {H H' : Hp} {d : D} {v : V} (h : Vok c M e O H H' d v) : Rb c.K H' O d v := by
  cases hb : bor M e with
  | true => exact h.1 hb
  | false => exact (h.2.1 hb).b
theorem Vok.of {e : E} {O : Addr → Prop} {H H1 H' : Hp} {d : D} {v : V} (hb : bor M e = false) (s : Same H H1) (n : Nw c.K H1 H' O d v) : Vok c M e O H H' d v :=
  ⟨fun z => (by rw [hb] at z; cases z), fun _ => n.1, fun _ m => (by obtain ⟨a, e, h, q⟩ := n.2 m; exact ⟨a, e, s.free h, q⟩)⟩
theorem Vok.pl {e : E} {O : Addr → Prop} {H H' : Hp} {d : D} {v : V} (hb : bor M e = false) (hf : fresh c.frf e = false) (r : Rp c.K H' O d v) : Vok c M e O H H' d v :=
  ⟨fun z => (by rw [hb] at z; cases z), fun _ => r, fun z => (by rw [hf] at z; cases z)⟩
theorem Vok.sc {e : E} {O : Addr → Prop} {H H' : Hp} {d : D} {v : V} (hb : bor M e = false) (hm : d.mut = false) (r : Rp c.K H' O d v) : Vok c M e O H H' d v :=
  ⟨fun z => (by rw [hb] at z; cases z), fun _ => r, fun _ z => (by rw [hm] at z; cases z)⟩
variable {σ : L2.St} {H Hs H0 : Hp} {Oc : Addr → Prop} {Ts : List (D × V)} {ρ : Rho}
/-- one step -/
theorem tE_step {a : E} {T : VK} {β : Type} {f : D → R β} {k : β → Prop} (s0 : Same Hs H) (env : EnvOk c.K H0 Oc M Ts σ H ρ) (r : Run (ev c.F a ρ >>= f) k (XW c Hs))
    (hk : ∀ v H1 d, Same H H1 → Vok c M a (Ow Oc M σ) H H1 d v → EnvOk c.K H0 Oc M Ts σ H1 ρ → Run (f d) k (XW c Hs) → T v H1) : tE c M a σ H T :=
  ⟨H0, Oc, Ts, ρ, env, (Run.bind.mp r).mono (fun d hd v H1 s1 vk => hk v H1 d s1 vk (env.same s1) hd) fun x z => XW.mono s0 z⟩
theorem tQ_step {a : E} {T : Bool → Hp → Prop} {β : Type} {f : Bool → R β} {k : β → Prop} (s0 : Same Hs H) (env : EnvOk c.K H0 Oc M Ts σ H ρ) (r : Run (tst c.F a ρ >>= f) k (XW c Hs))
    (hk : ∀ b H1, Same H H1 → EnvOk c.K H0 Oc M Ts σ H1 ρ → Run (f b) k (XW c Hs) → T b H1) : tQ c M a σ H T :=
  ⟨H0, Oc, Ts, ρ, env, (Run.bind.mp r).mono (fun d hd H1 s1 => hk d H1 s1 (env.same s1) hd) fun x z => XW.mono s0 z⟩
theorem tA_step {a : List E} {T : List V → Hp → Prop} {β : Type} {f : List D → R β} {k : β → Prop} (s0 : Same Hs H) (env : EnvOk c.K H0 Oc M Ts σ H ρ) (r : Run (evs c.F a ρ >>= f) k (XW c Hs))
    (hk : ∀ vs H1 ds, Same H H1 → Rps c.K H1 (Ow Oc M σ) ds vs → EnvOk c.K H0 Oc M Ts σ H1 ρ → Run (f ds) k (XW c Hs) → T vs H1) : tAs c M a σ H T :=
  ⟨H0, Oc, Ts, ρ, env, (Run.bind.mp r).mono (fun d hd v H1 s1 vk => hk v H1 d s1 vk (env.same s1) hd) fun x z => XW.mono s0 z⟩
theorem Run.ok' {α : Type} {m : R α} {a : α} {k : α → Prop} {x : Xc → Prop} (r : Run m k x) (e : m = .ok a) : k a := by rw [e] at r; exact r

/-! ### leaves -/
theorem pe_varD {i : Nat} {x : Str} (hN : X.N[i]? = some x) (hv : Vis X.env.scope x) (hd : (x == ("__debug__" : Str)) = false) (hcd : (x == ("__classdict__" : Str)) = false) : PE X (.Name x pos) (tE c M (.var i)) := by
  refine (pe_var hN hv hd hcd).imp fun σ H Q ⟨H0, Oc, Ts, ρ, env, r⟩ => ?_
  simp only [ev] at r
  obtain ⟨d, e, k⟩ := r.nx (NX.ofO _)
  have e1 : ρ[i]? = some (some d) := by
    have := ofO_ok e
    rw [List.getD_eq_getElem?_getD] at this
    cases h : ρ[i]? with
    | none => rw [h] at this; cases this
    | some o => rw [h] at this; simp at this; rw [this]
  obtain ⟨v, e2, q1, q2⟩ := env.val i d e1
  exact ⟨v, e2, k v H (Same.refl H) ⟨fun z => (q2 z).1, fun z => q1 z, fun z => nomatch z⟩⟩
def chkC : D → Const → Bool
  | .non, .none => true
  | .bl b, .bool b' => b == b'
  | .int i, .int j => i == j
  | .str s, .str x => decide (x.cps.toList = s) && decide (s.length ≤ LIM) && s.all (fun c => decide (c < 0x110000))
  | _, _ => false
theorem pe_cstD {d : D} {k : Const} {j : Nat} (h : chkC d k = true) : PE X (.Constant k j pos) (tE c M (.cst d)) := by
  have fin : ∀ {v : V} {σ : L2.St} {H : Hp} {Q : VK}, tE c M (.cst d) σ H Q → (∀ O, Rp c.K H O d v) → d.mut = false → Q v H := fun {v σ H Q} ⟨H0, Oc, Ts, ρ, env, r⟩ rp hm => by
    have r' : ∀ v H', Same H H' → Vok c M (.cst d) (Ow Oc M σ) H H' d v → Q v H' := r
    exact r' v H (Same.refl H) (Vok.sc rfl hm (rp _))
  cases d with
  | non =>
    cases k with
    | none => exact pe_non.imp fun σ H Q q => fin q (fun _ => rfl) rfl
    | _ => cases h
  | bl b =>
    cases k with
    | bool b' => obtain rfl : b = b' := by simpa [chkC] using h
                 exact pe_bl.imp fun σ H Q q => fin q (fun _ => rfl) rfl
    | _ => cases h
  | int b =>
    cases k with
    | int b' => obtain rfl : b = b' := by simpa [chkC] using h
                exact pe_int.imp fun σ H Q q => fin q (fun _ => rfl) rfl
    | _ => cases h
  | str b =>
    cases k with
    | str x =>
      simp only [chkC, Bool.and_eq_true, decide_eq_true_eq, List.all_eq_true] at h
      obtain ⟨⟨rfl, h2⟩, h3⟩ := h
      exact pe_str.imp fun σ H Q q => fin q (fun _ => ⟨rfl, h2, h3⟩) rfl
    | _ => cases h
  | _ => cases k <;> cases h
/-! ### operators -/
theorem pe_binD {op : Op2} {op' : Operator} {a b : Expr} {ca cb : E} (ho : OpR X (binaryOp op') (rD2 c.K (op2D op))) (ha : PE X a (tE c M ca)) (hb : PE X b (tE c M cb)) : PE X (.BinOp a op' b pos) (tE c M (.bin op ca cb)) := by
  refine (pe_op ho ha hb).imp fun σ H Q ⟨H0, Oc, Ts, ρ, env, r⟩ => ?_
  simp only [ev] at r
  refine tE_step (Same.refl H) env r fun x H1 d1 s1 v1 env1 r1 => tE_step s1 env1 r1 fun y H2 d2 s2 v2 env2 r2 => ?_
  obtain ⟨d, e, k⟩ := r2.nx (nx_op2 _ _ _)
  exact ⟨_, d1, d2, d, env2.alloc, Rb.same s2 v1.rb, v2.rb, e, fun v H' s nw => k v H' (s1.trans (s2.trans s)) (Vok.of rfl (s1.trans s2) nw)⟩
theorem pe_negD {a : Expr} {ca : E} (ha : PE X a (tE c M ca)) (hK : X.K = c.K) : PE X (.UnaryOp .USub a pos) (tE c M (.neg ca)) := by
  refine (pe_un (un_negD (X := X)) ha).imp fun σ H Q ⟨H0, Oc, Ts, ρ, env, r⟩ => ?_
  simp only [ev] at r
  refine tE_step (Same.refl H) env r fun x H1 d1 s1 v1 env1 r1 => ?_
  obtain ⟨d, e, k⟩ := r1.nx (nx_neg _)
  rw [hK]
  exact ⟨_, d1, d, env1.alloc, v1.rb, e, fun v H' s nw => k v H' (s1.trans s) (Vok.of rfl s1 nw)⟩
theorem pe_cmpD {op : Cm} {op' : CmpOp} {a b : Expr} {ca cb : E} (ho : OpR X (compareOp op') (rB2 c.K (cmD op))) (ha : PE X a (tE c M ca)) (hb : PE X b (tE c M cb)) (hm : behindInMarks op' b = false) : PE X (.Compare a [op'] [b] pos) (tE c M (.cmp op ca cb)) := by
  refine (pe_cmpR ho ha hb hm).imp fun σ H Q ⟨H0, Oc, Ts, ρ, env, r⟩ => ?_
  simp only [ev] at r
  refine tE_step (Same.refl H) env r fun x H1 d1 s1 v1 env1 r1 => tE_step s1 env1 r1 fun y H2 d2 s2 v2 env2 r2 => ?_
  obtain ⟨b, e, k⟩ := (Run.bind.mp r2).nx (nx_cm _ _ _)
  exact ⟨_, d1, d2, b, env2.alloc, Rb.same s2 v1.rb, v2.rb, e, k _ H2 (s1.trans s2) (Vok.sc rfl rfl rfl)⟩
theorem pt_cmpD {op : Cm} {op' : CmpOp} {a b : Expr} {ca cb : E} (ho : OpR X (compareOp op') (rB2 c.K (cmD op))) (ha : PE X a (tE c M ca)) (hb : PE X b (tE c M cb)) (hm : behindInMarks op' b = false) : PT X (.Compare a [op'] [b] pos) (tQ c M (.cmp op ca cb)) := by
  refine (pt_cmpR ho ha hb hm).imp fun σ H Q ⟨H0, Oc, Ts, ρ, env, r⟩ => ?_
  simp only [tst] at r
  refine tE_step (Same.refl H) env r fun x H1 d1 s1 v1 env1 r1 => tE_step s1 env1 r1 fun y H2 d2 s2 v2 env2 r2 => ?_
  obtain ⟨b, e, k⟩ := r2.nx (nx_cm _ _ _)
  exact ⟨_, d1, d2, b, env2.alloc, Rb.same s2 v1.rb, v2.rb, e, b, rfl, k H2 (s1.trans s2)⟩
theorem pe_chnD {o1 o2 : Cm} {p1 p2 : CmpOp} {a b d : Expr} {ca cb cd : E} (h1 : OpR X (compareOp p1) (rB2 c.K (cmD o1))) (h2 : OpR X (compareOp p2) (rB2 c.K (cmD o2))) (ha : PE X a (tE c M ca)) (hb : PE X b (tE c M cb)) (hc : PE X d (tE c M cd))
    (hm : lastMarks [p1, p2] [b, d] = false) : PE X (.Compare a [p1, p2] [b, d] pos) (tE c M (.chn o1 o2 ca cb cd)) := by
  refine (pe_chain h1 h2 ha hb hc hm).imp fun σ H Q ⟨H0, Oc, Ts, ρ, env, r⟩ => ?_
  simp only [ev] at r
  refine tE_step (Same.refl H) env r fun x H1 d1 s1 v1 env1 r1 => tE_step s1 env1 r1 fun y H2 d2 s2 v2 env2 r2 => ?_
  obtain ⟨b, e, k⟩ := (Run.bind.mp r2).nx (nx_cm _ _ _)
  refine ⟨_, d1, d2, b, env2.alloc, Rb.same s2 v1.rb, v2.rb, e, b, rfl, ?_⟩
  cases b with
  | true =>
    refine tE_step (s1.trans s2) env2 k fun z H3 d3 s3 v3 env3 r3 => ?_
    obtain ⟨b, e, k⟩ := (Run.bind.mp r3).nx (nx_cm _ _ _)
    exact ⟨_, d2, d3, b, env3.alloc, Rb.same s3 v2.rb, v3.rb, e, k _ H3 ((s1.trans s2).trans s3) (Vok.sc rfl rfl rfl)⟩
  | false => exact k _ H2 (s1.trans s2) (Vok.sc rfl rfl rfl)

theorem pt_chnD {o1 o2 : Cm} {p1 p2 : CmpOp} {a b d : Expr} {ca cb cd : E} (h1 : OpR X (compareOp p1) (rB2 c.K (cmD o1))) (h2 : OpR X (compareOp p2) (rB2 c.K (cmD o2))) (ha : PE X a (tE c M ca)) (hb : PE X b (tE c M cb)) (hc : PE X d (tE c M cd))
    (hm : lastMarks [p1, p2] [b, d] = false) : PT X (.Compare a [p1, p2] [b, d] pos) (tQ c M (.chn o1 o2 ca cb cd)) := by
  refine (pt_chain h1 h2 ha hb hc hm).imp fun σ H Q ⟨H0, Oc, Ts, ρ, env, r⟩ => ?_
  simp only [tst] at r
  refine tE_step (Same.refl H) env r fun x H1 d1 s1 v1 env1 r1 => tE_step s1 env1 r1 fun y H2 d2 s2 v2 env2 r2 => ?_
  obtain ⟨b, e, k⟩ := (Run.bind.mp r2).nx (nx_cm _ _ _)
  refine ⟨_, d1, d2, b, env2.alloc, Rb.same s2 v1.rb, v2.rb, e, b, rfl, ?_⟩
  cases b with
  | true =>
    refine tE_step (s1.trans s2) env2 k fun z H3 d3 s3 v3 env3 r3 => ?_
    obtain ⟨b, e, k⟩ := r3.nx (nx_cm _ _ _)
    exact ⟨_, d2, d3, b, env3.alloc, Rb.same s3 v2.rb, v3.rb, e, b, rfl, k H3 ((s1.trans s2).trans s3)⟩
  | false => exact ⟨false, rfl, k H2 (s1.trans s2)⟩
/-! ### truths -/
/-- any expression as a test, by truth -/
theorem pt_truD {a : Expr} {ca : E} (ha : PE X a (tE c M ca)) (hK : X.K = c.K) (ht : ∀ ρ, tst c.F ca ρ = (do let x ← ev c.F ca ρ; truth x)) (he : ∀ whole, isTrue a X.env whole = (do let v ← whole; standAt a.pos; holding [v] (truthy v))) : PT X a (tQ c M ca) := by
  refine (pt_truth ha he).imp fun σ H Q ⟨H0, Oc, Ts, ρ, env, r⟩ => ?_
  rw [ht] at r
  refine tE_step (Same.refl H) env r fun x H1 d1 s1 v1 env1 r1 => ?_
  obtain ⟨b, e, k⟩ := r1.nx (nx_tru _)
  exact ⟨b, by rw [hK]; exact tru_D v1.rb e, k H1 s1⟩
/-- an expression whose value is a truth -/
theorem pt_blD {a : Expr} {ca : E} (ha : PE X a (tE c M ca)) (ht : ∀ ρ, ev c.F ca ρ = (do let b ← tst c.F ca ρ; .ok (.bl b))) (he : ∀ whole, isTrue a X.env whole = (do let v ← whole; standAt a.pos; holding [v] (truthy v))) : PT X a (tQ c M ca) := by
  refine (pt_val ha he).imp fun σ H Q ⟨H0, Oc, Ts, ρ, env, r⟩ => ?_
  have r2 : Run (ev c.F ca ρ) (fun d => ∃ b, d = .bl b ∧ ∀ H', Same H H' → Q b H') (XW c H) := by
    rw [ht, Run.bind]
    exact r.mono (fun b hb => ⟨b, rfl, hb⟩) fun _ z => z
  refine ⟨H0, Oc, Ts, ρ, env, r2.mono (fun d ⟨b, e, hd⟩ v H1 s1 vk => ?_) fun _ z => z⟩
  subst e
  exact ⟨b, rb_bl vk.rb, hd H1 s1⟩
theorem pt_notD {a : Expr} {ca : E} (ha : PT X a (tQ c M ca)) : PT X (.UnaryOp .Not a pos) (tQ c M (.not ca)) := by
  refine (pt_not ha).imp fun σ H Q ⟨H0, Oc, Ts, ρ, env, r⟩ => ?_
  simp only [tst] at r
  exact tQ_step (Same.refl H) env r fun b H1 s1 env1 r1 => r1 H1 s1
theorem pe_notD {a : Expr} {ca : E} (ha : PE X a (tE c M ca)) : PE X (.UnaryOp .Not a pos) (tE c M (.not ca)) := by
  refine (pe_not ha).imp fun σ H Q ⟨H0, Oc, Ts, ρ, env, r⟩ => ?_
  simp only [ev] at r
  refine tE_step (Same.refl H) env r fun x H1 d1 s1 v1 env1 r1 => ?_
  obtain ⟨b, e, k⟩ := (Run.bind.mp r1).nx (nx_bl _)
  have hd : d1 = .bl b := by cases d1 <;> cases e; rfl
  subst hd
  exact ⟨b, rb_bl v1.rb, k _ H1 s1 (Vok.sc rfl rfl rfl)⟩
/-- and, or: tests -/
def tQA (es : List E) : TT := fun σ H Q => ∃ H0 Oc Ts ρ, EnvOk c.K H0 Oc M Ts σ H ρ ∧ Run (tAnd c.F es ρ) (fun b => ∀ H', Same H H' → Q b H') (XW c H)
def tQO (es : List E) : TT := fun σ H Q => ∃ H0 Oc Ts ρ, EnvOk c.K H0 Oc M Ts σ H ρ ∧ Run (tOr c.F es ρ) (fun b => ∀ H', Same H H' → Q b H') (XW c H)
theorem pw_andD : ∀ {es : List Expr} {ces : List E}, es ≠ [] → Paired (fun e ce => PT X e (tQ c M ce)) es ces → PW X (.BoolOp .And es pos) (tQA (c := c) (M := M) ces)
  | [], _, h, _ => absurd rfl h
  | [e], _, _, .cons r .nil => (pw_and1 r).imp fun σ H Q ⟨H0, Oc, Ts, ρ, env, r⟩ => ⟨H0, Oc, Ts, ρ, env, by simpa only [tAnd] using r⟩
  | e :: e' :: es, _, _, .cons (l₂ := _) r (.cons (b := ce') (l₂ := ces) r' t) => by
    refine (pw_and r (pw_andD (by simp) (.cons r' t))).imp fun σ H Q ⟨H0, Oc, Ts, ρ, env, r⟩ => ?_
    simp only [tAnd] at r
    refine tQ_step (Same.refl H) env r fun b H1 s1 env1 r1 => ?_
    cases b with
    | true => exact ⟨H0, Oc, Ts, ρ, env1, r1.mono (fun b k H' s' => k H' (s1.trans s')) fun x z => XW.mono s1 z⟩
    | false => exact r1 H1 s1
theorem pw_orD : ∀ {es : List Expr} {ces : List E}, es ≠ [] → Paired (fun e ce => PT X e (tQ c M ce)) es ces → PW X (.BoolOp .Or es pos) (tQO (c := c) (M := M) ces)
  | [], _, h, _ => absurd rfl h
  | [e], _, _, .cons r .nil => (pw_or1 r).imp fun σ H Q ⟨H0, Oc, Ts, ρ, env, r⟩ => ⟨H0, Oc, Ts, ρ, env, by simpa only [tOr] using r⟩
  | e :: e' :: es, _, _, .cons (l₂ := _) r (.cons (b := ce') (l₂ := ces) r' t) => by
    refine (pw_or r (pw_orD (by simp) (.cons r' t))).imp fun σ H Q ⟨H0, Oc, Ts, ρ, env, r⟩ => ?_
    simp only [tOr] at r
    refine tQ_step (Same.refl H) env r fun b H1 s1 env1 r1 => ?_
    cases b with
    | true => exact r1 H1 s1
    | false => exact ⟨H0, Oc, Ts, ρ, env1, r1.mono (fun b k H' s' => k H' (s1.trans s')) fun x z => XW.mono s1 z⟩
/-- and, or: values -/
def tVA (es : List E) : TE := fun σ H Q => ∃ H0 Oc Ts ρ, EnvOk c.K H0 Oc M Ts σ H ρ ∧ Run (evAnd c.F es ρ) (fun b => ∀ H', Same H H' → Q (.bl b) H') (XW c H)
def tVO (es : List E) : TE := fun σ H Q => ∃ H0 Oc Ts ρ, EnvOk c.K H0 Oc M Ts σ H ρ ∧ Run (evOr c.F es ρ) (fun b => ∀ H', Same H H' → Q (.bl b) H') (XW c H)
theorem blO_ok {d : D} {b : Bool} (e : blO d = .ok b) : d = .bl b := by cases d <;> cases e; rfl
theorem pe_andL : ∀ {es : List Expr} {ces : List E}, es ≠ [] → Paired (fun e ce => PE X e (tE c M ce)) es ces → PE X (.BoolOp .And es pos) (tVA (c := c) (M := M) ces)
  | [], _, h, _ => absurd rfl h
  | [e], _, _, .cons r .nil => by
    refine (pe_one r).imp fun σ H Q ⟨H0, Oc, Ts, ρ, env, r⟩ => ?_
    simp only [evAnd] at r
    refine tE_step (Same.refl H) env r fun x H1 d1 s1 v1 env1 r1 => ?_
    obtain ⟨b, e, k⟩ := r1.nx (nx_bl _)
    rw [blO_ok e] at v1
    rw [rb_bl v1.rb]
    exact k H1 s1
  | e :: e' :: es, _, _, .cons (l₂ := _) r (.cons (b := ce') (l₂ := ces) r' t) => by
    refine (pe_and r (pe_andL (by simp) (.cons r' t))).imp fun σ H Q ⟨H0, Oc, Ts, ρ, env, r⟩ => ?_
    simp only [evAnd] at r
    refine tE_step (Same.refl H) env r fun x H1 d1 s1 v1 env1 r1 => ?_
    obtain ⟨b, e, k⟩ := (Run.bind.mp r1).nx (nx_bl _)
    rw [blO_ok e] at v1
    refine ⟨b, rb_bl v1.rb, ?_⟩
    cases b with
    | true => exact ⟨H0, Oc, Ts, ρ, env1, k.mono (fun b k H' s' => k H' (s1.trans s')) fun x z => XW.mono s1 z⟩
    | false => exact k H1 s1
theorem pe_orL : ∀ {es : List Expr} {ces : List E}, es ≠ [] → Paired (fun e ce => PE X e (tE c M ce)) es ces → PE X (.BoolOp .Or es pos) (tVO (c := c) (M := M) ces)
  | [], _, h, _ => absurd rfl h
  | [e], _, _, .cons r .nil => by
    refine (pe_one r).imp fun σ H Q ⟨H0, Oc, Ts, ρ, env, r⟩ => ?_
    simp only [evOr] at r
    refine tE_step (Same.refl H) env r fun x H1 d1 s1 v1 env1 r1 => ?_
    obtain ⟨b, e, k⟩ := r1.nx (nx_bl _)
    rw [blO_ok e] at v1
    rw [rb_bl v1.rb]
    exact k H1 s1
  | e :: e' :: es, _, _, .cons (l₂ := _) r (.cons (b := ce') (l₂ := ces) r' t) => by
    refine (pe_or r (pe_orL (by simp) (.cons r' t))).imp fun σ H Q ⟨H0, Oc, Ts, ρ, env, r⟩ => ?_
    simp only [evOr] at r
    refine tE_step (Same.refl H) env r fun x H1 d1 s1 v1 env1 r1 => ?_
    obtain ⟨b, e, k⟩ := (Run.bind.mp r1).nx (nx_bl _)
    rw [blO_ok e] at v1
    refine ⟨b, rb_bl v1.rb, ?_⟩
    cases b with
    | true => exact k H1 s1
    | false => exact ⟨H0, Oc, Ts, ρ, env1, k.mono (fun b k H' s' => k H' (s1.trans s')) fun x z => XW.mono s1 z⟩
theorem pe_andD {es : List Expr} {ces : List E} (h : es ≠ []) (p : Paired (fun e ce => PE X e (tE c M ce)) es ces) : PE X (.BoolOp .And es pos) (tE c M (.and ces)) :=
  (pe_andL h p).imp fun σ H Q ⟨H0, Oc, Ts, ρ, env, r⟩ => ⟨H0, Oc, Ts, ρ, env, by simp only [ev] at r; exact (Run.bind.mp r).mono (fun b k H' s' => k _ H' s' (Vok.sc rfl rfl rfl)) fun _ z => z⟩
theorem pe_orD {es : List Expr} {ces : List E} (h : es ≠ []) (p : Paired (fun e ce => PE X e (tE c M ce)) es ces) : PE X (.BoolOp .Or es pos) (tE c M (.or ces)) :=
  (pe_orL h p).imp fun σ H Q ⟨H0, Oc, Ts, ρ, env, r⟩ => ⟨H0, Oc, Ts, ρ, env, by simp only [ev] at r; exact (Run.bind.mp r).mono (fun b k H' s' => k _ H' s' (Vok.sc rfl rfl rfl)) fun _ z => z⟩
theorem pe_iteD {t a b : Expr} {ct ca cb : E} (ht : PT X t (tQ c M ct)) (ha : PE X a (tE c M ca)) (hb : PE X b (tE c M cb)) (na : bor M ca = false) (nb : bor M cb = false) : PE X (.IfExp t a b pos) (tE c M (.ite ct ca cb)) := by
  refine (pe_ifExp ht ha hb).imp fun σ H Q ⟨H0, Oc, Ts, ρ, env, r⟩ => ?_
  simp only [ev] at r
  refine tQ_step (Same.refl H) env r fun k H1 s1 env1 r1 => ?_
  cases k with
  | true => exact ⟨H0, Oc, Ts, ρ, env1, r1.mono (fun d k v H' s' vk => k v H' (s1.trans s') (Vok.pl rfl rfl (vk.2.1 na))) fun x z => XW.mono s1 z⟩
  | false => exact ⟨H0, Oc, Ts, ρ, env1, r1.mono (fun d k v H' s' vk => k v H' (s1.trans s') (Vok.pl rfl rfl (vk.2.1 nb))) fun x z => XW.mono s1 z⟩
/-! ### argument lists, displays -/
theorem pa_D : ∀ {es : List Expr} {ces : List E}, Paired (fun e ce => PE X e (tE c M ce) ∧ bor M ce = false ∧ (∀ r, starEach (e :: r) X.env = (false, eval e X.env) :: starEach r X.env)) es ces → PA X es (tAs c M ces)
  | _, _, .nil => pa_nil.imp fun σ H Q ⟨H0, Oc, Ts, ρ, env, r⟩ => by
      simp only [evs] at r
      exact r [] H (Same.refl H) Rps.nil
  | _, _, .cons r t => (pa_cons r.1 (pa_D t) (r.2.2 _)).imp fun σ H Q ⟨H0, Oc, Ts, ρ, env, q⟩ => by
      simp only [evs] at q
      refine tE_step (Same.refl H) env q fun x H1 d1 s1 v1 env1 r1 => tA_step s1 env1 r1 fun xs H2 ds s2 rs env2 r2 => ?_
      exact r2 _ H2 (s1.trans s2) (Rps.cons (Rp.step (Stp.same s2) _ _ (v1.2.1 r.2.1)) rs)
theorem evs_len {F : Nat → List D → R D} : ∀ {ces : List E} {ρ : Rho} {ds : List D}, evs F ces ρ = .ok ds → ds.length = ces.length
  | [], ρ, ds, h => by simp only [evs] at h; cases h; rfl
  | e :: r, ρ, ds, h => by
    simp only [evs] at h
    cases h1 : ev F e ρ with
    | ok d =>
      rw [h1] at h
      cases h2 : evs F r ρ with
      | ok l =>
        rw [h2] at h
        cases h
        rw [List.length_cons, List.length_cons, evs_len h2]
      | exc x => rw [h2] at h; cases h
      | no => rw [h2] at h; cases h
    | exc x => rw [h1] at h; cases h
    | no => rw [h1] at h; cases h
theorem Run.eq {α : Type} {m : R α} {k : α → Prop} {x : Xc → Prop} (h : Run m k x) : Run m (fun a => m = .ok a ∧ k a) x := by
  cases m with
  | ok a => exact ⟨rfl, h⟩
  | exc e => exact h
  | no => exact h
theorem pe_tupD {es : List Expr} {ces : List E} {k : Nat} (ha : PA X es (tAs c M ces)) (hl : ces.length ≤ LIM) : PE X (.Tuple es k pos) (tE c M (.tup ces)) := by
  refine (pe_tupF ha).imp fun σ H Q ⟨H0, Oc, Ts, ρ, env, r⟩ => ?_
  simp only [ev] at r
  refine ⟨H0, Oc, Ts, ρ, env, (Run.bind.mp r).eq.mono (fun ds ⟨e, hd⟩ vs H1 s1 rs => ?_) fun x z => z⟩
  have hlen := evs_len e
  refine ⟨by rw [← rs.len, hlen, ← lim_eq]; exact hl, fun p o hp ho => ?_⟩
  exact hd _ _ (s1.trans (Same.new hp)) (Vok.of rfl s1 (nw_tup hp ho (by rw [hlen]; exact hl) rs))
theorem pe_lstD {es : List Expr} {ces : List E} (ha : PA X es (tAs c M ces)) (hl : ces.length ≤ LIM) : PE X (.List es pos) (tE c M (.lst ces)) := by
  refine (pe_lst ha).imp fun σ H Q ⟨H0, Oc, Ts, ρ, env, r⟩ => ?_
  simp only [ev] at r
  refine ⟨H0, Oc, Ts, ρ, env, (Run.bind.mp r).eq.mono (fun ds ⟨e, hd⟩ vs H1 s1 rs => ?_) fun x z => z⟩
  have hlen := evs_len e
  refine ⟨by rw [← rs.len, hlen, ← lim_eq]; exact hl, fun p hp => ?_⟩
  exact hd _ _ (s1.trans (Same.new hp)) (Vok.of rfl s1 (nw_lst (env.same s1).alloc hp (by rw [hlen]; exact hl) rs))
theorem pe_dk0D : PE X (.Dict [] [] pos) (tE c M .dk0) := by
  refine pe_dnewK.imp fun σ H Q ⟨H0, Oc, Ts, ρ, env, r⟩ p hp => ?_
  simp only [ev] at r
  refine r _ _ (Same.new hp) (Vok.of rfl (Same.refl H) ⟨?_, fun _ => ⟨p, rfl, hp, p, [], rfl, upd_same, rfl, Nat.zero_le _, (fun _ h => nomatch h), List.nodup_nil, Rps.nil⟩⟩)
  simp only [Rp]
  exact ⟨p, [], rfl, fun z => env.alloc p z hp, upd_same, rfl, Nat.zero_le _, (fun _ h => nomatch h), List.nodup_nil, Rps.nil⟩
def tDic0 (P : Program) (w : World) : TE := fun _ H Q => ∀ p, H p = none → Q (.ref p) (upd H p (DicTO P w p []))
theorem pe_dic0 : PE X (.Dict [] [] pos) (tDic0 X.prog X.w) := ⟨fun pins s σ H Q I h =>
  wpAny_Dict_empty ⟨.ref s.heap.objs.size, _, I.laid (a := s.heap.objs.size) (o := DicTO X.prog X.w s.heap.objs.size []) (t' := s.toks) (fun _ _ q => Heap.get?_push_of_some _ q) (Nat.le_refl _) (dicT_new ⟨by
    obtain ⟨_, y, _⟩ := dt_empty (P := X.prog) (w := X.w) (H := H) s.heap I.big
    exact y, _, _, _, Heap.get?_push_size _ rfl, ⟨rfl, rfl, rfl⟩, rfl, rfl⟩), rfl, h _ (I.hok.fresh (Nat.le_refl _))⟩⟩
theorem pe_dt0D (hP : X.prog = Pw.P) (hw : X.w = Pw.w) : PE X (.Dict [] [] pos) (tE c M .dt0) := by
  refine pe_dic0.imp fun σ H Q ⟨H0, Oc, Ts, ρ, env, r⟩ p hp => ?_
  simp only [ev] at r
  rw [hP, hw]
  refine r _ _ (Same.new hp) (Vok.of rfl (Same.refl H) ⟨?_, fun _ => ⟨p, rfl, hp, p, [], rfl, upd_same, rfl, rfl, Nat.zero_le _, (fun _ h => nomatch h), List.nodup_nil, fun _ h => nomatch h⟩⟩)
  simp only [Rp]
  exact ⟨p, [], rfl, fun z => env.alloc p z hp, upd_same, rfl, rfl, Nat.zero_le _, (fun _ h => nomatch h), List.nodup_nil, fun _ h => nomatch h⟩
/-! ### subscripts, slices -/
theorem pe_idxD {a b : Expr} {ca cb : E} (hu : X.A.units + 1 < cLine) (hK : X.K = c.K) (ha : PE X a (tE c M ca)) (hb : PE X b (tE c M cb)) (hp : PlainIx b) : PE X (.Subscript a b pos) (tE c M (.idx ca cb)) := by
  refine (pe_ix (ix_D hu) ha hb hp).imp fun σ H Q ⟨H0, Oc, Ts, ρ, env, r⟩ => ?_
  simp only [ev] at r
  refine tE_step (Same.refl H) env r fun x H1 d1 s1 v1 env1 r1 => tE_step s1 env1 r1 fun y H2 d2 s2 v2 env2 r2 => ?_
  obtain ⟨d, e, k⟩ := r2.nx (nx_idx _ _)
  rw [hK]
  exact ⟨_, d1, d2, d, env2.alloc, Rb.same s2 v1.rb, v2.rb, e, fun v rv => k v H2 (s1.trans s2) (Vok.pl rfl rfl rv)⟩
theorem _root_.L2.PO.imp {X : Cx} {e : Option Expr} {t t' : TO} (h : PO X e t) (i : ∀ σ H Q, t' σ H Q → t σ H Q) : PO X e t' := ⟨fun pins s σ H Q I q => h.run pins s σ H Q I (i σ H Q q)⟩
/-- an end of a slice -/
def tOD (c : Cn) (M : List Nat) (e : E) : TO := fun σ H Q => ∃ H0 Oc Ts ρ, EnvOk c.K H0 Oc M Ts σ H ρ ∧ Run (if e.abs then R.ok none else (do let y ← ev c.F e ρ; endD y)) (fun o => ∀ H', Same H H' → Q o H') (XW c H)
theorem po_noneD {e : E} (h : e.abs = true) : PO X none (tOD c M e) := po_none.imp fun σ H Q ⟨H0, Oc, Ts, ρ, env, r⟩ => by
  rw [if_pos h] at r
  exact r H (Same.refl H)
theorem po_someD {e : Expr} {ce : E} (h : ce.abs = false) (he : PE X e (tE c M ce)) : PO X (some e) (tOD c M ce) := (po_some he).imp fun σ H Q ⟨H0, Oc, Ts, ρ, env, r⟩ => by
  rw [if_neg (by rw [h]; exact Bool.false_ne_true)] at r
  refine ⟨H0, Oc, Ts, ρ, env, (Run.bind.mp r).mono (fun d hd v H1 s1 vk => ?_) fun x z => z⟩
  cases d with
  | int i => exact ⟨i, rb_int vk.rb, hd H1 s1⟩
  | _ => exact hd.elim
theorem pe_sliD {a : Expr} {lo hi : Option Expr} {ca cl ch : E} {p2 : Pos} (hK : X.K = c.K) (ha : PE X a (tE c M ca)) (hl : PO X lo (tOD c M cl)) (hh : PO X hi (tOD c M ch)) : PE X (.Subscript a (.Slice lo hi none p2) pos) (tE c M (.sli ca cl ch)) := by
  refine (pe_slice sl_D ha hl hh).imp fun σ H Q ⟨H0, Oc, Ts, ρ, env, r⟩ => ?_
  simp only [ev] at r
  refine tE_step (Same.refl H) env r fun x H1 d1 s1 v1 env1 r1 => ?_
  refine ⟨H0, Oc, Ts, ρ, env1, (Run.bind.mp r1).mono (fun l hd H2 s2 => ?_) fun x z => XW.mono s1 z⟩
  refine ⟨H0, Oc, Ts, ρ, env1.same s2, (Run.bind.mp hd).mono (fun h hd2 H3 s3 => ?_) fun x z => XW.mono (s1.trans s2) z⟩
  rw [hK]
  refine ⟨_, d1, ((env1.same s2).same s3).alloc, Rb.same (s2.trans s3) v1.rb, ?_⟩
  have sT := s1.trans (s2.trans s3)
  cases d1 with
  | tup xs => exact fun v H' s nw => hd2 v H' (sT.trans s) (Vok.of rfl sT nw)
  | lst xs => exact fun v H' s nw => hd2 v H' (sT.trans s) (Vok.of rfl sT nw)
  | str xs => exact fun v H' s nw => hd2 v H' (sT.trans s) (Vok.of rfl sT nw)
  | _ => exact hd2.elim
/-! ### built-ins, methods -/
def cBl : Bl → Value
  | .len => .builtin "len" | .all => .builtin "all" | .any => .builtin "any" | .sorted => .builtin "sorted" | .abs => .builtin "abs"
  | .tuple => .type "tuple" | .list => .type "list" | .dict => .type "dict" | .int => .type "int" | .str => .type "str"
def nBl : Bl → Str
  | .len => "len" | .all => "all" | .any => "any" | .sorted => "sorted" | .abs => "abs"
  | .tuple => "tuple" | .list => "list" | .dict => "dict" | .int => "int" | .str => "str"
theorem boot_Bl : ∀ b : Bl, bootBuiltins (nBl b) = some (cBl b) ∧ nBl b ≠ "__name__" ∧ (nBl b == ("__debug__" : Str)) = false := by
  intro b
  cases b <;> exact ⟨by decide +kernel, by decide +kernel, by decide +kernel⟩
theorem pa_one {a : Expr} {ca : E} (ha : PE X a (tE c M ca)) (hs : ∀ r, starEach (a :: r) X.env = (false, eval a X.env) :: starEach r X.env) : PA X [a] (tCons (tE c M ca) tNil) := pa_cons ha pa_nil (hs _)
theorem pe_bltD {b : Bl} {x : Str} {a : Expr} {ca : E} {p : Pos} (hx : x = nBl b) (hr : CallR X (cBl b) (rDs c.K (bltD b))) (hg : Gl X x) (hm : X.mg x = none) (ha : PE X a (tE c M ca)) (hs : ∀ r, starEach (a :: r) X.env = (false, eval a X.env) :: starEach r X.env) :
    PE X (.Call (.Name x p) [a] [] pos) (tE c M (.blt b ca)) := by
  subst hx
  obtain ⟨h1, h2, h3⟩ := boot_Bl b
  have fin : ∀ σ H Q, tE c M (.blt b ca) σ H Q → tCB (rDs c.K (bltD b)) (tCons (tE c M ca) tNil) σ H Q := fun σ H Q ⟨H0, Oc, Ts, ρ, env, r⟩ => by
    simp only [ev] at r
    refine tE_step (Same.refl H) env r fun x H1 d1 s1 v1 env1 r1 => ?_
    obtain ⟨d, e, k⟩ := r1.nx (nx_blt _ _)
    exact ⟨_, d1, x, d, env1.alloc, rfl, v1.rb, e, fun v H' s nw => k v H' (s1.trans s) (Vok.of rfl s1 nw)⟩
  cases b with
  | len => exact (pe_callB (by exact hr) hg hm h1 (pa_one ha hs) h2 h3 (hs _)).imp fin
  | all => exact (pe_callB (by exact hr) hg hm h1 (pa_one ha hs) h2 h3 (hs _)).imp fin
  | any => exact (pe_callB (by exact hr) hg hm h1 (pa_one ha hs) h2 h3 (hs _)).imp fin
  | sorted => exact (pe_callB (by exact hr) hg hm h1 (pa_one ha hs) h2 h3 (hs _)).imp fin
  | abs => exact (pe_callB (by exact hr) hg hm h1 (pa_one ha hs) h2 h3 (hs _)).imp fin
  | tuple => exact (pe_callTy (by exact hr) hg hm h1 (pa_one ha hs) h2 h3 (hs _)).imp fin
  | list => exact (pe_callTy (by exact hr) hg hm h1 (pa_one ha hs) h2 h3 (hs _)).imp fin
  | dict => exact (pe_callTy (by exact hr) hg hm h1 (pa_one ha hs) h2 h3 (hs _)).imp fin
  | int => exact (pe_callTy (by exact hr) hg hm h1 (pa_one ha hs) h2 h3 (hs _)).imp fin
  | str => exact (pe_callTy (by exact hr) hg hm h1 (pa_one ha hs) h2 h3 (hs _)).imp fin
end
end MT
end
section
set_option Elab.async false
set_option linter.all false
set_option maxRecDepth 100000
set_option maxHeartbeats 4000000
/-! MtI: methods, calls, what is walked, comprehensions. -/
namespace MT
open PySem PySem.Spec L2
variable [Pw]
section
variable {c : Cn} {M : List Nat} {X : Cx} {pos : Pos}
/-- what a plain argument is -/
def NoStar (X : Cx) (a : Expr) : Prop := ∀ r, starEach (a :: r) X.env = (false, eval a X.env) :: starEach r X.env
def idM : Mth → String
  | .partition => "str.partition" | .join => "str.join" | .split => "str.split"
def nmM : Mth → Str
  | .partition => "partition" | .join => "join" | .split => "split"
theorem slot_M (m : Mth) : Slot "str" (nmM m) (idM m) := by
  cases m
  · exact PySem.F.slot_str_partition
  · exact PySem.F.slot_str_join
  · exact PySem.F.slot_str_split
theorem type_M (m : Mth) : typeOf (.builtin (idM m)) = pure (.type "method_descriptor") := by
  cases m
  · exact PySem.F.type_str_partition
  · exact PySem.F.type_str_join
  · exact PySem.F.type_str_split
theorem rule_M (m : Mth) : MtR X (idM m) (rM1 X.K (mthD m)) := by
  cases m
  · exact m_partition
  · exact m_join
  · exact m_split
theorem pe_mthD {m : Mth} {x : Str} {o a : Expr} {co ca : E} {apos : Pos} (hx : x = nmM m) (hK : X.K = c.K) (ho : PE X o (tE c M co)) (ha : PE X a (tE c M ca)) (hs : NoStar X a) (hb : attributeBase o x X.env (eval o X.env) = eval o X.env) (hl : (apos.endLine == pos.line) = true) :
    PE X (.Call (.Attribute o x apos) [a] [] pos) (tE c M (.mth m co ca)) := by
  subst hx
  refine (pe_m1 (slot_M m) (type_M m) (rule_M m) ho ha (hs []) hb hl).imp fun σ H Q ⟨H0, Oc, Ts, ρ, env, r⟩ => ?_
  simp only [ev] at r
  refine tE_step (Same.refl H) env r fun x H1 d1 s1 v1 env1 r1 => ?_
  obtain ⟨a, ea, r1⟩ := (Run.bind.mp r1).nx (nx_strO _)
  have hd : d1 = .str a := by cases d1 <;> cases ea; rfl
  subst hd
  refine ⟨⟨toS a, (rb_str v1.rb).1⟩, tE_step s1 env1 r1 fun y H2 d2 s2 v2 env2 r2 => ?_⟩
  obtain ⟨d, e, k⟩ := r2.nx (nx_mth _ _ _)
  rw [hK]
  exact ⟨_, _, d2, y, d, env2.alloc, rfl, Rb.same s2 v1.rb, v2.rb, e, fun v H' s nw => k v H' (s1.trans (s2.trans s)) (Vok.of rfl (s1.trans s2) nw)⟩
theorem trees_of {a : Expr} (hs : NoStar X a) (q : Pos) : backTo q (starEach [a] X.env) = [(false, eval a X.env)] := by rw [hs []]; rfl
theorem trees_of2 {a b : Expr} (hs : NoStar X a) (hb : NoStar X b) (q : Pos) : backTo q (starEach [a, b] X.env) = [(false, eval a X.env), (false, eval b X.env)] := by rw [hs [b], hb []]; rfl
theorem pe_getD {o k x : Expr} {co ck cx : E} {apos : Pos} (hu : X.A.units + 1 < cLine) (ho : PE X o (tE c M co)) (hk : PE X k (tE c M ck)) (hx : PE X x (tE c M cx)) (sk : NoStar X k) (sx : NoStar X x) (nx : bor M cx = false)
    (hb : attributeBase o "get" X.env (eval o X.env) = eval o X.env) (hl : (apos.endLine == pos.line) = true) : PE X (.Call (.Attribute o "get" apos) [k, x] [] pos) (tE c M (.get co ck cx)) := by
  have m2 : M2 X o "get" apos k x pos := ⟨hb, by rw [trees_of2 sk sx]; rfl, hl, trees_of2 sk sx pos⟩
  refine (pe_dget2 hu ho hk hx m2).imp fun σ H Q ⟨H0, Oc, Ts, ρ, env, r⟩ => ?_
  simp only [ev] at r
  refine tE_step (Same.refl H) env r fun xv H1 d1 s1 v1 env1 r1 => ?_
  obtain ⟨p, ea, r1⟩ := (Run.bind.mp r1).nx (nx_dkO _)
  have hd : d1 = .dk p.1 p.2 := by cases d1 <;> cases ea; rfl
  subst hd
  obtain ⟨a, kvs, ex, sq, em, hl, hok, hnd, rr⟩ := v1.rb
  refine ⟨a, ex, .inl ⟨kvs, .inl sq⟩, tE_step s1 env1 r1 fun y H2 d2 s2 v2 env2 r2 => tE_step (s1.trans s2) env2 r2 fun z H3 d3 s3 v3 env3 r3 => ?_⟩
  unfold getD3 at r3
  cases hky : d2.ky with
  | none => rw [hky] at r3; exact r3.elim
  | some ky =>
    rw [hky] at r3
    obtain ⟨ey, _⟩ := kyD_of v2.rb hky
    have rr3 := Rps.step (Stp.same (s2.trans s3)) _ _ rr
    refine ⟨valV kvs (kyV ky), by rw [ey]; exact DGet.k ((s2.trans s3) _ _ sq), ?_⟩
    have sT := s1.trans (s2.trans s3)
    rcases look_val ky em rr3 with ⟨z1, z2⟩ | ⟨d', v', z1, z2, z3⟩
    · rw [z2]
      have r3' : ∀ v H', Same H H' → Vok c M (.get co ck cx) (Ow Oc M σ) H H' d3 v → Q v H' := by dsimp only at r3; rw [z1] at r3; exact r3
      exact r3' z H3 sT (Vok.pl rfl rfl (v3.2.1 nx))
    · rw [z2]
      have r3' : ∀ v H', Same H H' → Vok c M (.get co ck cx) (Ow Oc M σ) H H' d' v → Q v H' := by dsimp only at r3; rw [z1] at r3; exact r3
      exact r3' v' H3 sT (Vok.pl rfl rfl z3)
/-! ### isinstance -/
theorem boot_isi : bootBuiltins "isinstance" = some (.builtin "isinstance") := by decide +kernel
def tyOne : Ty → Option String
  | .str => some "str" | .int => some "int" | .bool => some "bool" | .tuple => some "tuple" | .list => some "list" | .intstr => none
theorem boot_ty : ∀ n ∈ ["str", "int", "bool", "tuple", "list"], bootBuiltins (Str.ofString n) = some (.type n) ∧ Str.ofString n ≠ "__name__" ∧ (Str.ofString n == ("__debug__" : Str)) = false := by decide +kernel
theorem pe_isiD {a : Expr} {ca : E} {t : Ty} {n : String} {p p1 : Pos} (hn : tyOne t = some n) (hK : X.K = c.K) (hg : Gl X "isinstance") (hm : X.mg "isinstance" = none) (hg2 : Gl X (Str.ofString n)) (hm2 : X.mg (Str.ofString n) = none) (ha : PE X a (tE c M ca)) (hs : NoStar X a) :
    PE X (.Call (.Name "isinstance" p) [a, .Name (Str.ofString n) p1] [] pos) (tE c M (.isi ca t)) := by
  have hmem : n ∈ ["str", "int", "bool", "tuple", "list"] := by cases t <;> cases hn <;> decide
  obtain ⟨b1, b2, b3⟩ := boot_ty n hmem
  have pty : PE X (.Name (Str.ofString n) p1) (tC (.ty n)) := pe_bltn hg2 hm2 b1 rfl b2 b3
  refine (pe_callB call_isi hg hm boot_isi (pa_cons ha (pa_cons pty pa_nil) (hs _)) (by decide +kernel) (by decide +kernel) (hs _)).imp fun σ H Q ⟨H0, Oc, Ts, ρ, env, r⟩ => ?_
  simp only [ev] at r
  refine tE_step (Same.refl H) env r fun x H1 d1 s1 v1 env1 r1 => ?_
  obtain ⟨b, e, k⟩ := (Run.bind.mp r1).nx (nx_isi _ _)
  obtain ⟨m, hty, hk⟩ := ty_X v1.rb b t e
  refine ⟨x, .ty n, _, .type n, b, rfl, .ty n, by rw [hK]; exact hty, kit_ty (hk n ?_), k _ H1 s1 (Vok.sc rfl rfl rfl)⟩
  cases t <;> cases hn <;> rfl
theorem pe_isiTD {a : Expr} {ca : E} {p p1 p2 pp : Pos} {kk : Nat} (hK : X.K = c.K) (hg : Gl X "isinstance") (hm : X.mg "isinstance" = none) (gi : Gl X (Str.ofString "int")) (mi : X.mg (Str.ofString "int") = none) (gs : Gl X (Str.ofString "str")) (ms : X.mg (Str.ofString "str") = none) (ha : PE X a (tE c M ca)) (hs : NoStar X a) :
    PE X (.Call (.Name "isinstance" p) [a, .Tuple [.Name (Str.ofString "int") p1, .Name (Str.ofString "str") p2] kk pp] [] pos) (tE c M (.isi ca .intstr)) := by
  obtain ⟨b1, b2, b3⟩ := boot_ty "int" (by decide)
  obtain ⟨d1, d2, d3⟩ := boot_ty "str" (by decide)
  have pi : PE X (.Name (Str.ofString "int") p1) (tC (.ty "int")) := pe_bltn gi mi b1 rfl b2 b3
  have ps : PE X (.Name (Str.ofString "str") p2) (tC (.ty "str")) := pe_bltn gs ms d1 rfl d2 d3
  have pt : PE X (.Tuple [.Name (Str.ofString "int") p1, .Name (Str.ofString "str") p2] kk pp) _ := pe_tup (pa_cons pi (pa_cons ps pa_nil))
  refine (pe_callB call_isiT hg hm boot_isi (pa_cons ha (pa_cons pt pa_nil) (hs _)) (by decide +kernel) (by decide +kernel) (hs _)).imp fun σ H Q ⟨H0, Oc, Ts, ρ, env, r⟩ => ?_
  simp only [ev] at r
  refine tE_step (Same.refl H) env r fun x H1 d1 s1 v1 env1 r1 => ?_
  obtain ⟨b, e, k⟩ := (Run.bind.mp r1).nx (nx_isi _ _)
  refine ⟨by show 2 ≤ sizeLine; decide, fun tp htp => ?_⟩
  obtain ⟨n, c1, c2, hty, k1, k2, eb⟩ := ty_X2 (v1.rb.same (Same.new htp)) b e
  refine ⟨x, tp, [.ty "int", .ty "str"], .type n, [.type "int", .type "str"], b, rfl, upd_same, .cons (.ty "int") (.cons (.ty "str") .nil), by rw [hK]; exact hty, ?_, k _ _ (s1.trans (Same.new htp)) (Vok.sc rfl rfl rfl)⟩
  have z1 : PySem.W.kitOne X.K (.type n) (.type "int") = some c1 := kit_ty k1
  have z2 : PySem.W.kitOne X.K (.type n) (.type "str") = some c2 := kit_ty k2
  simp only [PySem.W.kitAny, z1, z2]
  subst eb
  cases c1 <;> cases c2 <;> rfl
/-! ### calls -/
/-- what a def promises, by data -/
def spD (c : Cn) (n f : Nat) : Sp := fun vs H Q Ex => ∃ Oc ds, AllocO Oc H ∧ Amb H ∧ Rps c.K H Oc ds vs ∧ ds.length = n ∧
  Run (c.F f ds) (fun d => ∀ v H', Same H H' → Rp c.K H' Oc d v → (c.frf f = true → d.mut = true → NwT c.K H H' Oc d v) → Q v H') (fun x => ∀ cls da H', Same H H' → Frd H da → c.xr x cls da H' → Ex cls da H')
structure FnAt (P : Program) (w : World) (mg : Str → Option Value) (base : Heap) (c : Cn) (k n f : Nat) (x : Str) : Prop where
  at_ : ∃ (fa : Addr) (fd : FuncData) (ps : List Str), mg x = some (.ref fa) ∧ PySem.W.keepIn c.K (.ref fa) = true ∧ Binds c.K fd ps [] ∧ ps.length = n ∧ FnOk P w c.K mg base (L2.CX P w) k fa fd ps (spD c n f)
  db : (x == ("__debug__" : Str)) = false
/-! calls with things of one's own: what is told bears no list, no dict -/
mutual
theorem Rp.pureO {K : PySem.W.Frag} {H : Hp} {O O' : Addr → Prop} : ∀ (d : D) (v : V), d.pure = true → Rp K H O d v → Rp K H O' d v
  | .non, _, _, h => h
  | .bl _, _, _, h => h
  | .int _, _, _, h => h
  | .str _, _, _, h => h
  | .tup ds, v, p, h => by
    simp only [Rp] at h ⊢
    obtain ⟨a, vs, e, s, l, r, n⟩ := h
    exact ⟨a, vs, e, s, l, Rps.pureO ds vs (by simpa [D.pure] using p) r, n⟩
  | .lst _, _, p, _ => by simp [D.pure] at p
  | .dk _ _, _, p, _ => by simp [D.pure] at p
  | .dt _ _, _, p, _ => by simp [D.pure] at p
  | .scr _, _, p, _ => by simp [D.pure] at p
  | .adr _ _, _, p, _ => by simp [D.pure] at p
theorem Rps.pureO {K : PySem.W.Frag} {H : Hp} {O O' : Addr → Prop} : ∀ (ds : List D) (vs : List V), D.pures ds = true → Rps K H O ds vs → Rps K H O' ds vs
  | [], [], _, _ => Rps.nil
  | d :: r, v :: q, p, h => by
    simp only [D.pures, Bool.and_eq_true] at p
    simp only [Rps] at h ⊢
    exact ⟨Rp.pureO d v p.1 h.1, Rps.pureO r q p.2 h.2⟩
  | [], _ :: _, _, h => by simp only [Rps] at h
  | _ :: _, [], _, h => by simp only [Rps] at h
end
inductive Rbs (K : PySem.W.Frag) (H : Hp) (O : Addr → Prop) : List D → List V → Prop
  | nil : Rbs K H O [] []
  | cons {d : D} {v : V} {ds : List D} {vs : List V} : Rb K H O d v → Rbs K H O ds vs → Rbs K H O (d :: ds) (v :: vs)
theorem Rbs.rps {K : PySem.W.Frag} {H : Hp} {O O' : Addr → Prop} (st : Stp O O' H H) {L : List V} (hL : ∀ a, V.ref a ∈ L → ¬ O' a) {ds : List D} {vs : List V} (h : Rbs K H O ds vs) : (∀ v ∈ vs, v ∈ L) → Rps K H O' ds vs := by
  induction h with
  | nil => intro _; exact Rps.nil
  | @cons d v ds vs hb _ ih =>
    intro hs
    have hv := hs v List.mem_cons_self
    refine Rps.cons ?_ (ih fun w hw => hs w (List.mem_cons_of_mem _ hw))
    cases d with
    | lst xs => obtain ⟨a, ws, e, s, l, r⟩ := hb; subst e; simp only [Rp]; exact ⟨a, ws, rfl, hL a hv, s, l, Rps.step st _ _ r⟩
    | dk ks xs => obtain ⟨a, ws, e, s, l, l2, l3, l4, r⟩ := hb; subst e; simp only [Rp]; exact ⟨a, ws, rfl, hL a hv, s, l, l2, l3, l4, Rps.step st _ _ r⟩
    | dt ks xs => obtain ⟨a, ws, e, s, l, l2, l3, l4, l5, r⟩ := hb; subst e; simp only [Rp]; exact ⟨a, ws, rfl, hL a hv, s, l, l2, l3, l4, l5, fun m hm => ⟨st.sqT (r m hm).1, st.nod (r m hm).2⟩⟩
    | non => exact Rp.step st _ _ hb
    | bl _ => exact Rp.step st _ _ hb
    | int _ => exact Rp.step st _ _ hb
    | str _ => exact Rp.step st _ _ hb
    | tup _ => exact Rp.step st _ _ hb
    | scr _ => exact Rp.step st _ _ hb
    | adr _ _ => exact Rp.step st _ _ hb
theorem Rbs.same {K : PySem.W.Frag} {H H' : Hp} {O : Addr → Prop} (s : Same H H') {ds : List D} {vs : List V} (h : Rbs K H O ds vs) : Rbs K H' O ds vs := by
  induction h with
  | nil => exact .nil
  | cons hb _ ih => exact .cons (Rb.same s hb) ih
def tAb (c : Cn) (M : List Nat) (es : List E) : TA := fun σ H Q => ∃ H0 Oc Ts ρ, EnvOk c.K H0 Oc M Ts σ H ρ ∧ Run (evs c.F es ρ) (fun ds => ∀ vs H', Same H H' → Rbs c.K H' (Ow Oc M σ) ds vs → Q vs H') (XW c H)
theorem pa_Db : ∀ {es : List Expr} {ces : List E}, Paired (fun e ce => PE X e (tE c M ce) ∧ NoStar X e) es ces → PA X es (tAb c M ces)
  | _, _, .nil => pa_nil.imp fun σ H Q ⟨H0, Oc, Ts, ρ, env, r⟩ => by
      simp only [evs] at r
      exact r [] H (Same.refl H) .nil
  | _, _, .cons r t => (pa_cons r.1 (pa_Db t) (r.2 _)).imp fun σ H Q ⟨H0, Oc, Ts, ρ, env, q⟩ => by
      simp only [evs] at q
      refine tE_step (Same.refl H) env q fun x H1 d1 s1 v1 env1 r1 => ?_
      refine ⟨H0, Oc, Ts, ρ, env1, (Run.bind.mp r1).mono (fun ds hd vs H2 s2 rs => ?_) fun _ z => XW.mono s1 z⟩
      exact hd _ H2 (s1.trans s2) (.cons (Rb.same s2 v1.rb) rs)
theorem pe_callbD {f n k : Nat} {x : Str} {es : List Expr} {ces : List E} {p : Pos} (hK : X.K = c.K) (hF : FnAt X.prog X.w X.mg X.base c k n f x) (hr : Room k X.A) (hg : Gl X x) (hp : Passes (L2.CX X.prog X.w) X c.wish)
    (pa : Paired (fun e ce => PE X e (tE c M ce) ∧ NoStar X e) es ces) (hn : ces.length = n) (hne : es ≠ []) : PE X (.Call (.Name x p) es [] pos) (tE c M (.callb f ces)) := by
  obtain ⟨⟨fa, fd, ps, h1, h2, h3, h4, h5⟩, db⟩ := hF
  rw [← hK] at h2 h3 h5
  have ha := pa_Db pa
  have fin : ∀ σ H Q, tE c M (.callb f ces) σ H Q → tCall (spD c n f) [] c.wish (tAb c M ces) σ H Q := fun σ H Q ⟨H0, Oc, Ts, ρ, env, r⟩ => by
    simp only [ev] at r
    refine ⟨H0, Oc, Ts, ρ, env, (Run.bind.mp r).eq.mono (fun ds ⟨e, hd⟩ vs H1 s1 rs => ?_) fun x z => z⟩
    show spD c n f (vs ++ []) H1 Q c.wish
    rw [List.append_nil]
    have al := (env.same s1).alloc
    have st : Stp (Ow Oc M σ) (fun a => Ow Oc M σ a ∧ V.ref a ∉ vs) H1 H1 := ⟨fun a o e _ _ => e, fun a xs e => e, fun a o u e => e, fun a z => .inl z.1⟩
    refine ⟨_, ds, fun a z => al a z.1, (env.same s1).amb, rs.rps st (fun a ha z => z.2 ha) (fun v hv => hv), (evs_len e).trans hn, (Run.bind.mp hd).mono (fun d k v H' s' rv hf => ?_) fun x z => XW.mono s1 z⟩
    cases hpu : d.pure with
    | false => rw [hpu] at k; exact k.elim
    | true =>
      rw [hpu] at k
      exact k v H' (s1.trans s') (Vok.pl rfl rfl (Rp.pureO d v hpu rv))
  cases pa with
  | nil => exact absurd rfl hne
  | cons q t =>
    refine (pe_call h5 hr hg h1 h2 h3 .nil hp ha db (q.2 _) ?_).imp fin
    clear ha fin hn hne
    induction t with
    | nil => rfl
    | cons q' t ih =>
      rw [q'.2]
      exact ih
theorem pe_callD {f n k : Nat} {x : Str} {es : List Expr} {ces : List E} {p : Pos} (hK : X.K = c.K) (hF : FnAt X.prog X.w X.mg X.base c k n f x) (hr : Room k X.A) (hg : Gl X x) (hp : Passes (L2.CX X.prog X.w) X c.wish)
    (pa : Paired (fun e ce => PE X e (tE c M ce) ∧ bor M ce = false ∧ NoStar X e) es ces) (hn : ces.length = n) : PE X (.Call (.Name x p) es [] pos) (tE c M (.call f ces)) := by
  obtain ⟨⟨fa, fd, ps, h1, h2, h3, h4, h5⟩, db⟩ := hF
  rw [← hK] at h2 h3 h5
  have ha := pa_D pa
  have fin : ∀ σ H Q, tE c M (.call f ces) σ H Q → tCall (spD c n f) [] c.wish (tAs c M ces) σ H Q := fun σ H Q ⟨H0, Oc, Ts, ρ, env, r⟩ => by
    simp only [ev] at r
    refine ⟨H0, Oc, Ts, ρ, env, (Run.bind.mp r).eq.mono (fun ds ⟨e, hd⟩ vs H1 s1 rs => ?_) fun x z => z⟩
    show spD c n f (vs ++ []) H1 Q c.wish
    rw [List.append_nil]
    refine ⟨_, ds, (env.same s1).alloc, (env.same s1).amb, rs, (evs_len e).trans hn, hd.mono (fun d k v H' s' rv hf => k v H' (s1.trans s') ⟨(fun z => nomatch z), fun _ => rv, fun hz hm => ?_⟩) fun x z => ?_⟩
    · obtain ⟨a, e1, e2, e3⟩ := hf hz hm
      exact ⟨a, e1, s1.free e2, e3⟩
    · exact XW.mono s1 z
  cases pa with
  | nil =>
    refine (pe_call0 h5 hr hg h1 h2 h3 .nil hp db).imp fun σ H Q h => ?_
    obtain ⟨H0, Oc, Ts, ρ, env, r⟩ := fin σ H Q h
    simp only [evs] at r
    exact r [] H (Same.refl H) Rps.nil
  | cons q t =>
    refine (pe_call h5 hr hg h1 h2 h3 .nil hp ha db (q.2.2 _) ?_).imp fin
    clear ha fin hn
    induction t with
    | nil => rfl
    | cons q' t ih =>
      rw [q'.2.2]
      exact ih
end
end MT
end
section
set_option Elab.async false
set_option linter.all false
set_option maxRecDepth 100000
set_option maxHeartbeats 4000000
/-! MtJ: what is walked; comprehensions. -/
namespace MT
open PySem PySem.Spec L2
open RZ (ItzT pi_zipA)
theorem _root_.L2.PI.imp {X : Cx} {tg e : Expr} {t t' : TI} (h : PI X tg e t) (i : ∀ σ H R, t' σ H R → t σ H R) : PI X tg e t' := ⟨fun pins s σ H Q I q => h.run pins s σ H Q I (i σ H Q q)⟩
theorem _root_.L2.PI.or {X : Cx} {tg e : Expr} {t t' : TI} (h : PI X tg e t) (h' : PI X tg e t') : PI X tg e (fun σ H R => t σ H R ∨ t' σ H R) := ⟨fun pins s σ H Q I q => q.elim (h.run pins s σ H Q I) (h'.run pins s σ H Q I)⟩
theorem one_mem {α : Type} {a : α} {P : α → Prop} (h : P a) : ∀ p ∈ [a], P p := fun p hp => by
  have e : p = a := by simpa using hp
  rw [e]; exact h
variable [Pw]
/-- a walk that gives the data ds, while the sources stand -/
structure WD (K : PySem.W.Frag) (J : It) (src : List (D × V)) (ds : List D) (f : Bool) : Prop where
  walk : Walk J ds.length (fun H => ∃ O, ∀ p ∈ src, Rb K H O p.1 p.2) (fun i H x H' => ∀ O, AllocO O H → (∀ p ∈ src, Rb K H O p.1 p.2) → Same H H' ∧ ∃ d, ds[i]? = some d ∧ Rw K H' O d x ∧ (f = true → Rp K H' O d x))
theorem full {P : D → Prop} {K : PySem.W.Frag} {H : Hp} {O : Addr → Prop} {v : V} (h : ∃ d, P d ∧ Rp K H O d v) : ∃ d, P d ∧ Rw K H O d v ∧ (true = true → Rp K H O d v) := by
  obtain ⟨d, a, b⟩ := h
  exact ⟨d, a, b.w, fun _ => b⟩
theorem thin {P : D → Prop} {K : PySem.W.Frag} {H : Hp} {O : Addr → Prop} {v : V} (h : ∃ d, P d ∧ Rw K H O d v) : ∃ d, P d ∧ Rw K H O d v ∧ (false = true → Rp K H O d v) := by
  obtain ⟨d, a, b⟩ := h
  exact ⟨d, a, b, fun z => nomatch z⟩
section
variable {K : PySem.W.Frag}
theorem wd_list {a : Addr} {ds : List D} : WD K (Itl K a) [(.lst ds, .ref a)] ds true := by
  refine ⟨⟨fun i H hi ⟨O, h⟩ => ?_, fun H ⟨O, h⟩ => ?_, fun i H x H' hi _ y O al h => ?_⟩⟩
  · obtain ⟨b, vs, e, sq, _, r⟩ := h _ List.mem_cons_self
    cases e
    have hl := r.len
    exact ⟨vs, vs[i]'(by omega), SqL.of sq, by simp⟩
  · obtain ⟨b, vs, e, sq, _, r⟩ := h _ List.mem_cons_self
    cases e
    exact ⟨vs, SqL.of sq, Nat.le_of_eq r.len.symm⟩
  · obtain ⟨b, vs, e, sq, _, r⟩ := h _ List.mem_cons_self
    cases e
    obtain ⟨e1, e2⟩ := y
    subst e1
    exact ⟨Same.refl _, full (r.getV (e2 vs (SqL.of sq)))⟩
theorem wd_tup {a : Addr} {ds : List D} : WD K (Itt K a) [(.tup ds, .ref a)] ds true := by
  refine ⟨⟨fun i H hi ⟨O, h⟩ => ?_, fun H ⟨O, h⟩ => ?_, fun i H x H' hi _ y O al h => ?_⟩⟩
  · obtain ⟨b, vs, e, sq, _, r⟩ := rb_tup (h _ List.mem_cons_self)
    cases e
    have hl := r.len
    exact ⟨vs, vs[i]'(by omega), sq, by simp⟩
  · obtain ⟨b, vs, e, sq, _, r⟩ := rb_tup (h _ List.mem_cons_self)
    cases e
    exact ⟨vs, sq, Nat.le_of_eq r.len.symm⟩
  · obtain ⟨b, vs, e, sq, _, r⟩ := rb_tup (h _ List.mem_cons_self)
    cases e
    obtain ⟨e1, e2⟩ := y
    subst e1
    exact ⟨Same.refl _, full (r.getV (e2 vs sq))⟩
theorem okS_one {s : List Nat} {c : Nat} (h : okS s) (hc : c ∈ s) : okS [c] := by
  refine ⟨by show 1 ≤ LIM; decide, fun z hz => ?_⟩
  have e : z = c := by simpa using hz
  rw [e]; exact h.2 c hc
theorem wd_str {s : List Nat} (ok : okS s) : WD K (Its (toS s)) [] (s.map fun c => .str [c]) true := by
  refine ⟨⟨fun i H hi _ => ?_, fun H _ => ?_, fun i H x H' hi _ y O al h => ?_⟩⟩
  · simpa [Its] using hi
  · simp [Its]
  · obtain ⟨e1, c, e2, e3⟩ := y
    subst e1
    have e2' : s[i]? = some c := by simpa using e2
    exact ⟨Same.refl _, full ⟨.str [c], by rw [List.getElem?_map, e2']; rfl, e3, okS_one ok (List.mem_of_getElem? e2')⟩⟩
theorem wd_rng {lo : Int} {n : Nat} : WD K (Itr lo n) [] (rngF lo n) true := by
  have hl : (rngF lo n).length = n := by simp [rngF]
  refine ⟨⟨fun i H hi _ => ?_, fun H _ => ?_, fun i H x H' hi _ y O al h => ?_⟩⟩
  · rw [hl] at hi; exact hi
  · rw [hl]; exact Nat.le_refl _
  · obtain ⟨e1, e2⟩ := y
    subst e1
    rw [hl] at hi
    refine ⟨Same.refl _, full ⟨.int (lo + (i : Int)), ?_, e2⟩⟩
    unfold rngF
    rw [List.getElem?_map, List.getElem?_range hi]; rfl
theorem enumF_get : ∀ (ds : List D) (k i : Nat), (enumF k ds)[i]? = (ds[i]?).map fun d => .tup [.int ((k + i : Nat) : Int), d]
  | [], k, i => by simp [enumF]
  | d :: r, k, 0 => by simp [enumF]
  | d :: r, k, i + 1 => by
    simp only [enumF, List.getElem?_cons_succ, enumF_get r (k + 1) i]
    rw [show k + 1 + i = k + (i + 1) by omega]
theorem enumF_len : ∀ (ds : List D) (k : Nat), (enumF k ds).length = ds.length
  | [], k => rfl
  | d :: r, k => by simp [enumF, enumF_len r]
theorem zipF_get : ∀ (xs ys : List D) (i : Nat) (x y : D), xs[i]? = some x → ys[i]? = some y → (zipF xs ys)[i]? = some (.tup [x, y])
  | [], _, _, _, _, h, _ => by simp at h
  | _ :: _, [], _, _, _, _, h => by simp at h
  | a :: r, b :: q, 0, x, y, h, h2 => by simp at h h2; simp [zipF, h, h2]
  | a :: r, b :: q, i + 1, x, y, h, h2 => by
    simp only [zipF, List.getElem?_cons_succ]
    exact zipF_get r q i x y (by simpa using h) (by simpa using h2)
theorem zipF_len : ∀ (xs ys : List D), (zipF xs ys).length = min xs.length ys.length
  | [], _ => by simp [zipF]
  | _ :: _, [] => by simp [zipF]
  | a :: r, b :: q => by simp [zipF, zipF_len r q] <;> omega
theorem pair_rp {H : Hp} {O : Addr → Prop} {T : Addr} {x y : V} {a b : D} (hT : H T = none) (ha : Rp K H O a x) (hb : Rp K H O b y) : Rw K (upd H T (.tup [x, y])) O (.tup [a, b]) (.ref T) :=
  .inr ⟨_, T, [x, y], rfl, rfl, SqT.of upd_same, (by show 2 ≤ LIM; decide), Rps.step (Stp.same (Same.new hT)) _ _ (Rps.cons ha (Rps.cons hb Rps.nil))⟩
theorem wd_enumL {a : Addr} {ds : List D} : WD K (Ite K a) [(.lst ds, .ref a)] (enumF 0 ds) false := by
  have hlen := enumF_len ds 0
  refine ⟨⟨fun i H hi ⟨O, h⟩ => ?_, fun H ⟨O, h⟩ => ?_, fun i H x H' hi _ y O al h => ?_⟩⟩
  · obtain ⟨b, vs, e, sq, _, r⟩ := h _ List.mem_cons_self
    cases e
    have hl := r.len
    exact ⟨vs, vs[i]'(by omega), SqL.of sq, by simp⟩
  · obtain ⟨b, vs, e, sq, _, r⟩ := h _ List.mem_cons_self
    cases e
    exact ⟨vs, SqL.of sq, by rw [hlen]; exact Nat.le_of_eq r.len.symm⟩
  · obtain ⟨b, vs, e, sq, _, r⟩ := h _ List.mem_cons_self
    cases e
    obtain ⟨T, w, rfl, hT, rfl, e4⟩ := y
    obtain ⟨d, g1, g2⟩ := r.getV (e4 vs (SqL.of sq))
    refine ⟨Same.new hT, thin ⟨.tup [.int (i : Nat), d], ?_, pair_rp hT rfl g2⟩⟩
    rw [enumF_get, g1]; simp
theorem wd_enumT {a : Addr} {ds : List D} : WD K (IteT K a) [(.tup ds, .ref a)] (enumF 0 ds) false := by
  have hlen := enumF_len ds 0
  refine ⟨⟨fun i H hi ⟨O, h⟩ => ?_, fun H ⟨O, h⟩ => ?_, fun i H x H' hi _ y O al h => ?_⟩⟩
  · obtain ⟨b, vs, e, sq, _, r⟩ := rb_tup (h _ List.mem_cons_self)
    cases e
    have hl := r.len
    exact ⟨vs, vs[i]'(by omega), sq, by simp⟩
  · obtain ⟨b, vs, e, sq, _, r⟩ := rb_tup (h _ List.mem_cons_self)
    cases e
    exact ⟨vs, sq, by rw [hlen]; exact Nat.le_of_eq r.len.symm⟩
  · obtain ⟨b, vs, e, sq, _, r⟩ := rb_tup (h _ List.mem_cons_self)
    cases e
    obtain ⟨T, w, rfl, hT, rfl, e4⟩ := y
    obtain ⟨d, g1, g2⟩ := r.getV (e4 vs sq)
    refine ⟨Same.new hT, thin ⟨.tup [.int (i : Nat), d], ?_, pair_rp hT rfl g2⟩⟩
    rw [enumF_get, g1]; simp
theorem wd_zipT {a b : Addr} {ds es : List D} : WD K (ItzT K a b) [(.tup ds, .ref a), (.tup es, .ref b)] (zipF ds es) false := by
  have hlen := zipF_len ds es
  refine ⟨⟨fun i H hi ⟨O, h⟩ => ?_, fun H ⟨O, h⟩ => ?_, fun i H x H' hi _ y O al h => ?_⟩⟩
  · obtain ⟨p, vs, e, sq, _, r⟩ := rb_tup (h _ List.mem_cons_self)
    obtain ⟨p2, vs2, e2, sq2, _, r2⟩ := rb_tup (h (.tup es, .ref b) (by simp))
    cases e; cases e2
    have hl := r.len
    have hl2 := r2.len
    exact ⟨vs, vs2, vs[i]'(by omega), vs2[i]'(by omega), sq, sq2, by simp, by simp⟩
  · obtain ⟨p, vs, e, sq, _, r⟩ := rb_tup (h _ List.mem_cons_self)
    obtain ⟨p2, vs2, e2, sq2, _, r2⟩ := rb_tup (h (.tup es, .ref b) (by simp))
    cases e; cases e2
    have hl := r.len
    have hl2 := r2.len
    exact ⟨vs, vs2, sq, sq2, by omega⟩
  · obtain ⟨p, vs, e, sq, _, r⟩ := rb_tup (h _ List.mem_cons_self)
    obtain ⟨p2, vs2, e2, sq2, _, r2⟩ := rb_tup (h (.tup es, .ref b) (by simp))
    cases e; cases e2
    obtain ⟨T, w, z, rfl, hT, rfl, e4, e5⟩ := y
    obtain ⟨d, g1, g2⟩ := r.getV (e4 vs sq)
    obtain ⟨d', g3, g4⟩ := r2.getV (e5 vs2 sq2)
    exact ⟨Same.new hT, thin ⟨_, zipF_get _ _ i d d' g1 g3, pair_rp hT g2 g4⟩⟩
end
/-- do the walked things bear no dict? -/
def fullI : Ir → Bool
  | .enm _ => false
  | .zip _ _ => false
  | _ => true
def borI (M : List Nat) : Ir → Bool
  | .seq e => bor M e
  | .rng1 _ => false
  | .rng2 _ _ => false
  | .enm e => bor M e
  | .zip a b => bor M a || bor M b
section
variable {c : Cn} {M : List Nat} {X : Cx} {pos : Pos} {tg : Expr}
def tI (c : Cn) (M : List Nat) (it : Ir) : TI := fun σ H R => ∃ H0 Oc Ts ρ, EnvOk c.K H0 Oc M Ts σ H ρ ∧
  Run (its c.F it ρ) (fun ds => ∀ J src H1, Same H H1 → WD c.K J src ds (fullI it) → (∀ p ∈ src, Rb c.K H1 (Ow Oc M σ) p.1 p.2) → (borI M it = false → ∀ p ∈ src, Rp c.K H1 (Ow Oc M σ) p.1 p.2) → ds.length ≤ LIM → R J H1) (XW c H)
theorem nx_seq (d : D) : NX (seqD d) := by unfold seqD; split <;> first | exact NX.ok _ | exact NX.no
theorem nx_rng (a b : D) : NX (rngD a b) := by unfold rngD; split <;> first | exact NX.ite (NX.ok _) NX.no | exact NX.no
theorem nx_enm (d : D) : NX (enmD d) := by unfold enmD; split <;> first | exact NX.ok _ | exact NX.no
theorem nx_zip (a b : D) : NX (zipD a b) := by unfold zipD; split <;> first | exact NX.ok _ | exact NX.no
theorem Run.ok2 {α : Type} {m : R α} {k : α → Prop} {x : Xc → Prop} {a : α} (e : m = .ok a) (h : k a) : Run m k x := by rw [e]; exact h
theorem pi_seqD {e : Expr} {ce : E} (hK : X.K = c.K) (he : PE X e (tE c M ce)) : PI X tg e (tI c M (.seq ce)) := by
  refine ((pi_list he).or ((pi_tup he).or (pi_str he))).imp fun σ H R ⟨H0, Oc, Ts, ρ, env, r⟩ => ?_
  simp only [its] at r
  cases hev : ev c.F ce ρ with
  | no => rw [hev] at r; exact r.elim
  | exc x => rw [hev] at r; exact .inl ⟨H0, Oc, Ts, ρ, env, by rw [hev]; exact r⟩
  | ok d =>
    rw [hev] at r
    cases d with
    | lst ds =>
      refine .inl ⟨H0, Oc, Ts, ρ, env, .ok2 hev fun v H1 s1 vk => ?_⟩
      obtain ⟨a, vs, e1, sq, hl, rr⟩ := rb_lst vk.rb
      subst e1
      refine ⟨a, rfl, ⟨vs, SqL.of sq⟩, ?_⟩
      rw [hK]
      exact r _ _ H1 s1 wd_list (one_mem (P := fun (q : D × V) => Rb c.K H1 (Ow Oc M σ) q.1 q.2) vk.rb) (fun hb => one_mem (P := fun (q : D × V) => Rp c.K H1 (Ow Oc M σ) q.1 q.2) (vk.2.1 hb)) hl
    | tup ds =>
      refine .inr (.inl ⟨H0, Oc, Ts, ρ, env, .ok2 hev fun v H1 s1 vk => ?_⟩)
      obtain ⟨a, vs, e1, sq, hl, rr⟩ := rb_tup vk.rb
      subst e1
      rw [hK]
      refine ⟨a, rfl, ⟨vs, sq⟩, ?_⟩
      exact r _ _ H1 s1 wd_tup (one_mem (P := fun (q : D × V) => Rb c.K H1 (Ow Oc M σ) q.1 q.2) vk.rb) (fun hb => one_mem (P := fun (q : D × V) => Rp c.K H1 (Ow Oc M σ) q.1 q.2) (vk.2.1 hb)) hl
    | str s =>
      refine .inr (.inr ⟨H0, Oc, Ts, ρ, env, .ok2 hev fun v H1 s1 vk => ?_⟩)
      obtain ⟨e1, ok⟩ := rb_str vk.rb
      exact ⟨toS s, e1, r _ _ H1 s1 (wd_str ok) (fun p hp => nomatch hp) (fun _ p hp => nomatch hp) (by rw [List.length_map]; exact ok.1)⟩
    | _ => exact r.elim
theorem rngD_ok {a b : D} {ds : List D} (h : rngD a b = .ok ds) : ∃ i j : Int, a = .int i ∧ b = .int j ∧ (-(2 ^ 62) ≤ i ∧ i < 2 ^ 62 ∧ -(2 ^ 62) ≤ j ∧ j < 2 ^ 62) ∧ (j - i).toNat ≤ LIM ∧ ds = rngF i (j - i).toNat := by
  cases a <;> cases b <;> first | cases h | skip
  rename_i i j
  simp only [rngD] at h
  split at h
  · rename_i hc
    cases h
    exact ⟨i, j, rfl, rfl, ⟨by omega, by omega, by omega, by omega⟩, hc.2.2, rfl⟩
  · cases h
theorem pi_rng1D {a : Expr} {ca : E} {p : Pos} (hg : Gl X "range") (hm : X.mg "range" = none) (ha : PE X a (tE c M ca)) (hs : NoStar X a) : PI X tg (.Call (.Name "range" p) [a] [] pos) (tI c M (.rng1 ca)) := by
  refine (pi_range1 hg hm (pa_one ha hs) (hs [])).imp fun σ H R ⟨H0, Oc, Ts, ρ, env, r⟩ => ?_
  simp only [its] at r
  refine tE_step (Same.refl H) env r fun x H1 d1 s1 v1 env1 r1 => ?_
  obtain ⟨ds, e, k⟩ := r1.nx (nx_rng _ _)
  obtain ⟨i, j, ea, rfl, hb, hl, rfl⟩ := rngD_ok e
  cases ea
  show ∃ j', _
  rw [Int.sub_zero] at k hl
  exact ⟨j, by rw [rb_int v1.rb], hb.2.2.1, hb.2.2.2, k _ _ H1 s1 wd_rng (fun p hp => nomatch hp) (fun _ p hp => nomatch hp) (by simpa [rngF] using hl)⟩
theorem pi_rng2D {a b : Expr} {ca cb : E} {p : Pos} (hg : Gl X "range") (hm : X.mg "range" = none) (ha : PE X a (tE c M ca)) (hb : PE X b (tE c M cb)) (sa : NoStar X a) (sb : NoStar X b) : PI X tg (.Call (.Name "range" p) [a, b] [] pos) (tI c M (.rng2 ca cb)) := by
  refine (pi_range2 hg hm (pa_cons ha (pa_cons hb pa_nil (sb _)) (sa _)) (by rw [sa, sb]; rfl) (by rw [sb]; rfl)).imp fun σ H R ⟨H0, Oc, Ts, ρ, env, r⟩ => ?_
  simp only [its] at r
  refine tE_step (Same.refl H) env r fun x H1 d1 s1 v1 env1 r1 => tE_step s1 env1 r1 fun y H2 d2 s2 v2 env2 r2 => ?_
  obtain ⟨ds, e, k⟩ := r2.nx (nx_rng _ _)
  obtain ⟨i, j, rfl, rfl, hb, hl, rfl⟩ := rngD_ok e
  exact ⟨i, j, by rw [rb_int v1.rb, rb_int v2.rb], hb, k _ _ H2 (s1.trans s2) wd_rng (fun p hp => nomatch hp) (fun _ p hp => nomatch hp) (by simpa [rngF] using hl)⟩
theorem pi_zipD {a b : Expr} {ca cb : E} {p tpos : Pos} {elts : List Expr} {kk : Nat} (hK : X.K = c.K) (hg : Gl X "zip") (hm : X.mg "zip" = none) (ha : PE X a (tE c M ca)) (hb : PE X b (tE c M cb)) (sa : NoStar X a) (sb : NoStar X b) (na : bor M ca = false) (nb : bor M cb = false) :
    PI X (.Tuple elts kk tpos) (.Call (.Name "zip" p) [a, b] [] pos) (tI c M (.zip ca cb)) := by
  refine (pi_zipA hg hm (pa_cons ha (pa_cons hb pa_nil (sb _)) (sa _)) (sa _) (by rw [sb]; rfl)).imp fun σ H R ⟨H0, Oc, Ts, ρ, env, r⟩ => ?_
  simp only [its] at r
  refine tE_step (Same.refl H) env r fun x H1 d1 s1 v1 env1 r1 => tE_step s1 env1 r1 fun y H2 d2 s2 v2 env2 r2 => ?_
  obtain ⟨ds, e, k⟩ := r2.nx (nx_zip _ _)
  cases d1 <;> cases d2 <;> first | cases e | skip
  rename_i xs ys
  have p1 : Rp c.K H2 (Ow Oc M σ) (.tup xs) x := Rp.step (Stp.same s2) _ _ (v1.2.1 na)
  have p2 : Rp c.K H2 (Ow Oc M σ) (.tup ys) y := v2.2.1 nb
  obtain ⟨l1, vs1, e1, q1, h1, rr1⟩ := rb_tup p1.b
  obtain ⟨l2, vs2, e2, q2, h2, rr2⟩ := rb_tup p2.b
  subst e1 e2
  rw [hK]
  refine ⟨l1, l2, vs1, vs2, rfl, .inr ⟨q1, q2, ?_⟩⟩
  have all : ∀ q ∈ [((.tup xs : D), (V.ref l1)), (.tup ys, .ref l2)], Rp c.K H2 (Ow Oc M σ) q.1 q.2 := fun q hq => by
    rcases List.mem_cons.mp hq with rfl | hq
    · exact p1
    · have e : q = (.tup ys, .ref l2) := by simpa using hq
      rw [e]; exact p2
  exact k _ _ H2 (s1.trans s2) wd_zipT (fun q hq => (all q hq).b) (fun _ => all) (by rw [zipF_len]; omega)
theorem pi_enmD {a : Expr} {ca : E} {p tpos : Pos} {elts : List Expr} {kk : Nat} (hK : X.K = c.K) (hg : Gl X "enumerate") (hm : X.mg "enumerate" = none) (ha : PE X a (tE c M ca)) (sa : NoStar X a) (na : bor M ca = false) :
    PI X (.Tuple elts kk tpos) (.Call (.Name "enumerate" p) [a] [] pos) (tI c M (.enm ca)) := by
  refine ((pi_enum hg hm (pa_one ha sa) (sa [])).or (pi_enT hg hm (pa_one ha sa) (sa []))).imp fun σ H R ⟨H0, Oc, Ts, ρ, env, r⟩ => ?_
  simp only [its] at r
  cases hev : ev c.F ca ρ with
  | no => rw [hev] at r; exact r.elim
  | exc x => rw [hev] at r; exact .inl ⟨H0, Oc, Ts, ρ, env, by rw [hev]; exact r⟩
  | ok d1 =>
   rw [hev] at r
   obtain ⟨ds, e, k⟩ := Run.nx (nx_enm _) (show Run (enmD d1) _ _ from r)
   cases d1 with
   | lst xs =>
    cases e
    refine .inl ⟨H0, Oc, Ts, ρ, env, .ok2 hev fun v H1 s1 v1 => ?_⟩
    obtain ⟨a, vs, e1, sq, hl, rr⟩ := rb_lst v1.rb
    subst e1
    rw [hK]
    refine ⟨a, vs, rfl, SqL.of sq, k _ _ H1 s1 wd_enumL (one_mem (P := fun (q : D × V) => Rb c.K H1 (Ow Oc M σ) q.1 q.2) v1.rb) (fun hb => one_mem (P := fun (q : D × V) => Rp c.K H1 (Ow Oc M σ) q.1 q.2) (v1.2.1 hb)) (by rw [enumF_len]; exact hl)⟩
   | tup xs =>
    cases e
    refine .inr ⟨H0, Oc, Ts, ρ, env, .ok2 hev fun v H1 s1 v1 => ?_⟩
    obtain ⟨a, vs, e1, sq, hl, rr⟩ := rb_tup v1.rb
    subst e1
    rw [hK]
    exact ⟨a, vs, rfl, sq, k _ _ H1 s1 wd_enumT (one_mem (P := fun (q : D × V) => Rb c.K H1 (Ow Oc M σ) q.1 q.2) v1.rb) (fun hb => one_mem (P := fun (q : D × V) => Rp c.K H1 (Ow Oc M σ) q.1 q.2) (v1.2.1 hb)) (by rw [enumF_len]; exact hl)⟩
   | _ => cases e
end
end MT
end
section
set_option Elab.async false
set_option linter.all false
set_option maxRecDepth 100000
set_option maxHeartbeats 4000000
/-! MtK: targets, comprehensions. -/
namespace MT
open PySem PySem.Spec L2
variable [Pw]
section
variable {K : PySem.W.Frag} {H0 H : Hp} {Oc : Addr → Prop} {M : List Nat} {Ts : List (D × V)} {σ : L2.St} {ρ : Rho}
theorem ow_set {i : Nat} {x : Option V} (hM : M.contains i = false) : Ow Oc M (σ.set i x) = Ow Oc M σ := by
  funext a
  apply propext
  constructor
  · rintro (z | ⟨j, hj, e⟩)
    · exact .inl z
    · have : i ≠ j := fun q => by rw [q, hj] at hM; cases hM
      rw [List.getElem?_set_ne this] at e
      exact .inr ⟨j, hj, e⟩
  · rintro (z | ⟨j, hj, e⟩)
    · exact .inl z
    · have : i ≠ j := fun q => by rw [q, hj] at hM; cases hM
      exact .inr ⟨j, hj, by rw [List.getElem?_set_ne this]; exact e⟩
theorem EnvOk.set {i : Nat} {v : V} {d : D} (env : EnvOk K H0 Oc M Ts σ H ρ) (hM : M.contains i = false) (r : Rp K H (Ow Oc M σ) d v) : EnvOk K H0 Oc M Ts (σ.set i (some v)) H (setR ρ i d) := by
  have ho := ow_set (Oc := Oc) (σ := σ) (x := some v) hM
  refine ⟨by simp [setR, env.len], env.base, env.oc, fun j e hj => ?_, fun j a hj e => ?_, fun j l a hj hl e1 e2 => ?_, fun p hp => by rw [ho]; exact env.tmp p hp, env.tabs⟩
  · rw [ho]
    unfold setR at hj
    by_cases hij : i = j
    · subst hij
      by_cases hlt : i < ρ.length
      · rw [List.getElem?_set_self hlt] at hj
        cases hj
        refine ⟨v, by rw [List.getElem?_set_self (by rw [env.len]; exact hlt)], fun _ => r, fun z => by rw [hM] at z; cases z⟩
      · rw [List.getElem?_eq_none (by simpa using hlt)] at hj; cases hj
    · rw [List.getElem?_set_ne hij] at hj
      obtain ⟨w, e1, e2⟩ := env.val j e hj
      exact ⟨w, by rw [List.getElem?_set_ne hij]; exact e1, e2⟩
  · have hij : i ≠ j := fun q => by rw [q, hj] at hM; cases hM
    rw [List.getElem?_set_ne hij] at e
    obtain ⟨h1, d', h2⟩ := env.own j a hj e
    exact ⟨h1, d', by unfold setR; rw [List.getElem?_set_ne hij]; exact h2⟩
  · have hij : i ≠ j := fun q => by rw [q, hj] at hM; cases hM
    have hil : i ≠ l := fun q => by rw [q, hl] at hM; cases hM
    rw [List.getElem?_set_ne hij] at e1
    rw [List.getElem?_set_ne hil] at e2
    exact env.dist j l a hj hl e1 e2
theorem wipe_get : ∀ (vs : List Nat) (j : Nat), (wipe σ vs)[j]? = if j ∈ vs ∧ j < σ.length then some none else σ[j]?
  | [], j => by simp [wipe]
  | v :: vs, j => by
    unfold wipe
    by_cases hv : v = j
    · subst hv
      by_cases hl : v < σ.length
      · rw [List.getElem?_set_self (by rw [wipe_length]; exact hl), if_pos ⟨List.mem_cons_self, hl⟩]
      · rw [if_neg (fun z => hl z.2), List.getElem?_eq_none (by rw [List.length_set, wipe_length]; omega), List.getElem?_eq_none (by omega)]
    · rw [List.getElem?_set_ne hv, wipe_get vs j]
      have : (j ∈ v :: vs) ↔ j ∈ vs := by simp [Ne.symm hv]
      simp only [this]
theorem wipe_set {vs : List Nat} {i : Nat} {x : Option V} (h : i ∈ vs) : wipe (σ.set i x) vs = wipe σ vs := by
  apply List.ext_getElem?
  intro j
  rw [wipe_get, wipe_get, List.length_set]
  by_cases hj : j ∈ vs ∧ j < σ.length
  · rw [if_pos hj, if_pos hj]
  · rw [if_neg hj, if_neg hj]
    by_cases hij : i = j
    · subst hij
      have : ¬ i < σ.length := fun z => hj ⟨h, z⟩
      rw [List.getElem?_eq_none (by rw [List.length_set]; omega), List.getElem?_eq_none (by omega)]
    · rw [List.getElem?_set_ne hij]
theorem wipeR_get : ∀ (vs : List Nat) (j : Nat) (d : D), (wipeR ρ vs)[j]? = some (some d) → ρ[j]? = some (some d) ∧ j ∉ vs
  | [], j, d, h => ⟨h, by simp⟩
  | v :: vs, j, d, h => by
    unfold wipeR at h
    by_cases hv : v = j
    · subst hv
      by_cases hl : v < (wipeR ρ vs).length
      · rw [List.getElem?_set_self hl] at h; cases h
      · rw [List.getElem?_eq_none (by simpa using hl)] at h; cases h
    · rw [List.getElem?_set_ne hv] at h
      obtain ⟨h1, h2⟩ := wipeR_get vs j d h
      exact ⟨h1, by simp only [List.mem_cons, not_or]; exact ⟨fun e => hv e.symm, h2⟩⟩
theorem wipeR_len : ∀ (vs : List Nat), (wipeR ρ vs).length = ρ.length
  | [] => rfl
  | v :: vs => by unfold wipeR; rw [List.length_set, wipeR_len vs]
theorem wipeR_keep : ∀ (vs : List Nat) (j : Nat), j ∉ vs → (wipeR ρ vs)[j]? = ρ[j]?
  | [], j, _ => rfl
  | v :: vs, j, h => by
    simp only [List.mem_cons, not_or] at h
    unfold wipeR
    rw [List.getElem?_set_ne (fun e => h.1 e.symm), wipeR_keep vs j h.2]
theorem ow_wipe {vs : List Nat} (hM : ∀ i ∈ vs, M.contains i = false) : Ow Oc M (wipe σ vs) = Ow Oc M σ := by
  funext a
  apply propext
  have key : ∀ j, M.contains j = true → (wipe σ vs)[j]? = σ[j]? := fun j hj => by
    rw [wipe_get, if_neg]
    intro z
    have := hM j z.1
    rw [hj] at this; cases this
  constructor
  · rintro (z | ⟨j, hj, e⟩)
    · exact .inl z
    · exact .inr ⟨j, hj, by rw [← key j hj]; exact e⟩
  · rintro (z | ⟨j, hj, e⟩)
    · exact .inl z
    · exact .inr ⟨j, hj, by rw [key j hj]; exact e⟩
theorem EnvOk.wipe {vs : List Nat} (env : EnvOk K H0 Oc M Ts σ H ρ) (hM : ∀ i ∈ vs, M.contains i = false) : EnvOk K H0 Oc M Ts (wipe σ vs) H (wipeR ρ vs) := by
  have ho := ow_wipe (Oc := Oc) (σ := σ) hM
  have key : ∀ j, M.contains j = true → (L2.wipe σ vs)[j]? = σ[j]? := fun j hj => by
    rw [wipe_get, if_neg]
    intro z
    have := hM j z.1
    rw [hj] at this; cases this
  refine ⟨by rw [wipe_length, wipeR_len, env.len], env.base, env.oc, fun j e hj => ?_, fun j a hj e => ?_, fun j l a hj hl e1 e2 => ?_, fun p hp => by rw [ho]; exact env.tmp p hp, env.tabs⟩
  · rw [ho]
    obtain ⟨h1, h2⟩ := wipeR_get vs j e hj
    obtain ⟨w, e1, e2⟩ := env.val j e h1
    exact ⟨w, by rw [wipe_get, if_neg (fun z => h2 z.1)]; exact e1, e2⟩
  · rw [key j hj] at e
    obtain ⟨h1, d', h2⟩ := env.own j a hj e
    refine ⟨h1, d', ?_⟩
    rw [wipeR_keep vs j (fun z => by have := hM j z; rw [hj] at this; cases this)]; exact h2
  · rw [key j hj] at e1
    rw [key l hl] at e2
    exact env.dist j l a hj hl e1 e2
/-- more is avoided, no temporaries -/
theorem EnvOk.avoid {D' : Addr} {H' : Hp} (env : EnvOk K H0 Oc M Ts σ H ρ) (s : Same H H') (hD : H D' = none) (hD' : H' D' ≠ none) : EnvOk K H0 (fun a => Oc a ∨ a = D') M [] σ H' ρ := by
  have st : Stp (Ow Oc M σ) (Ow (fun a => Oc a ∨ a = D') M σ) H H' := ⟨fun a o e _ n => s.all a o e n, fun a xs e => s a _ e, fun a o u e => s a _ e, fun a z => by
    rcases z with (z | z) | z
    · exact .inl (.inl z)
    · exact .inr (by rw [z]; exact hD)
    · exact .inl (.inr z)⟩
  refine ⟨env.len, env.base.trans s, fun a z => ?_, fun j e hj => ?_, env.own, env.dist, (fun p hp => nomatch hp), env.tabs⟩
  · rcases z with z | z
    · exact (env.same s).oc a z
    · rw [z]; exact hD'
  · obtain ⟨w, e1, q1, q2⟩ := env.val j e hj
    refine ⟨w, e1, fun z => Rp.step st _ _ (q1 z), fun z => ⟨?_, (q2 z).2⟩⟩
    have rb := (q2 z).1
    have hm := (q2 z).2
    cases e with
    | lst ds => obtain ⟨a, vs, e, sq, l, r⟩ := rb; exact ⟨a, vs, e, s _ _ sq, l, Rps.step st _ _ r⟩
    | dk ks ds => obtain ⟨a, vs, e, sq, l, l2, l3, l4, r⟩ := rb; exact ⟨a, vs, e, s _ _ sq, l, l2, l3, l4, Rps.step st _ _ r⟩
    | dt ks ds => obtain ⟨a, vs, e, sq, l, l2, l3, l4, l5, r⟩ := rb; exact ⟨a, vs, e, s _ _ sq, l, l2, l3, l4, l5, fun m hm => ⟨st.sqT (r m hm).1, st.nod (r m hm).2⟩⟩
    | _ => cases hm
end
/-! ### targets -/
def tgIn : Tg → List Nat → Prop
  | .one i, vs => i ∈ vs
  | .tup is, vs => ∀ i ∈ is, i ∈ vs
def tgM : Tg → List Nat → Prop
  | .one i, M => M.contains i = false
  | .tup is, M => ∀ i ∈ is, M.contains i = false
section
variable {c : Cn} {M : List Nat} {X : Cx} {pos : Pos}
def Rg (K : PySem.W.Frag) (H : Hp) (O : Addr → Prop) : Tg → D → V → Prop
  | .one _, d, v => Rp K H O d v
  | .tup _, d, v => Rw K H O d v
def okTI : Tg → Ir → Bool
  | .one _, it => fullI it
  | .tup _, _ => true
theorem rg_of {K : PySem.W.Frag} {H : Hp} {O : Addr → Prop} {tg : Tg} {it : Ir} {d : D} {v : V} (h : okTI tg it = true) (r : Rw K H O d v ∧ (fullI it = true → Rp K H O d v)) : Rg K H O tg d v := by
  cases tg with
  | one i => exact r.2 h
  | tup is => exact r.1
theorem rg_all {K : PySem.W.Frag} {H : Hp} {O : Addr → Prop} {tg : Tg} {d : D} {v : V} (r : Rp K H O d v) : Rg K H O tg d v := by
  cases tg with
  | one i => exact r
  | tup is => exact r.w
def gT (c : Cn) (M : List Nat) (tg : Tg) : TG := fun v σ H Q => ∃ H0 Oc Ts ρ d ρ', EnvOk c.K H0 Oc M Ts σ H ρ ∧ Rg c.K H (Ow Oc M σ) tg d v ∧ bindT tg d ρ = .ok ρ' ∧
  ∀ σ', EnvOk c.K H0 Oc M Ts σ' H ρ' → (∀ vs, tgIn tg vs → wipe σ' vs = wipe σ vs) → Ow Oc M σ' = Ow Oc M σ → Q σ' H
theorem _root_.L2.PG.imp {X : Cx} {e : Expr} {t t' : TG} (h : PG X e t) (i : ∀ v σ H Q, t' v σ H Q → t v σ H Q) : PG X e t' := ⟨fun pins s σ H v u Q I r q => h.run pins s σ H v u Q I r (i v σ H Q q)⟩
theorem pg_oneD {i : Nat} {x : Str} (hN : X.N.Nodup) (hi : X.N[i]? = some x) (hx : Loc X.env.scope x) (hf : X.fn x = true ∨ X.env.scope.names.lookup x = some .local) (hM : M.contains i = false) : PG X (.Name x pos) (gT c M (.one i)) := by
  refine (pg_name hN hi hx hf).imp fun v σ H Q ⟨H0, Oc, Ts, ρ, d, ρ', env, r, e, k⟩ => ?_
  cases e
  exact k _ (env.set hM r) (fun vs h => wipe_set h) (ow_set hM)
/-- several names -/
def gTs (c : Cn) (M : List Nat) (is : List Nat) : TGs := fun vs σ H Q => ∃ H0 Oc Ts ρ ds ρ', EnvOk c.K H0 Oc M Ts σ H ρ ∧ Rps c.K H (Ow Oc M σ) ds vs ∧ setsR ρ is ds = .ok ρ' ∧
  ∀ σ', EnvOk c.K H0 Oc M Ts σ' H ρ' → (∀ vs, (∀ i ∈ is, i ∈ vs) → wipe σ' vs = wipe σ vs) → Ow Oc M σ' = Ow Oc M σ → Q σ' H
theorem _root_.L2.PGs.imp {X : Cx} {e : List Expr} {t t' : TGs} (h : PGs X e t) (i : ∀ v σ H Q, t' v σ H Q → t v σ H Q) : PGs X e t' := ⟨fun pins s σ H v u Q I r q => h.run pins s σ H v u Q I r (i v σ H Q q)⟩
/-- a name of a target, as the text has it -/
structure TgAt (X : Cx) (M : List Nat) (e : Expr) (i : Nat) : Prop where
  is : ∃ x p, e = .Name x p ∧ X.N[i]? = some x ∧ Loc X.env.scope x ∧ (X.fn x = true ∨ X.env.scope.names.lookup x = some .local)
  m : M.contains i = false
theorem assignEach_name {x : Str} {p : Pos} {es : List Expr} {env : Env} : (assignEach (.Name x p :: es) env).map (·.2) = assign (.Name x p) env :: (assignEach es env).map (·.2) := rfl
theorem pgs_D (hN : X.N.Nodup) : ∀ {es : List Expr} {is : List Nat}, Paired (TgAt X M) es is → PGs X es (gTs c M is)
  | _, _, .nil => pgs_nil.imp fun vs σ H Q ⟨H0, Oc, Ts, ρ, ds, ρ', env, r, e, k⟩ => by
      cases ds with
      | nil => cases e; exact ⟨r.inv0, k σ env (fun _ _ => rfl) rfl⟩
      | cons d ds => cases e
  | _, _, .cons (a := a) (b := i) q t => by
    obtain ⟨⟨x, p, rfl, h1, h2, h3⟩, hM⟩ := q
    refine (pgs_cons (pg_oneD (c := c) hN h1 h2 h3 hM) (pgs_D hN t) assignEach_name).imp fun vs σ H Q ⟨H0, Oc, Ts, ρ, ds, ρ', env, r, e, k⟩ => ?_
    cases ds with
    | nil => cases e
    | cons d ds =>
      obtain ⟨v, w, rfl, r1, r2⟩ := r.inv
      refine ⟨v, w, rfl, H0, Oc, Ts, ρ, d, _, env, r1, rfl, fun σ' env' hw ho => ?_⟩
      refine ⟨H0, Oc, Ts, _, ds, ρ', env', by rw [ho]; exact r2, e, fun σ2 env2 hw2 ho2 => k σ2 env2 (fun vs hv => ?_) (ho2.trans ho)⟩
      rw [hw2 vs (fun j hj => hv j (List.mem_cons_of_mem _ hj)), hw vs (hv i List.mem_cons_self)]
theorem tg_len {es : List Expr} {is : List Nat} {env : Env} (h : Paired (TgAt X M) es is) : (assignEach es env).length = is.length ∧ (assignEach es env).findIdx? (·.1) = none := by
  induction h with
  | nil => exact ⟨rfl, rfl⟩
  | cons q t ih =>
    obtain ⟨⟨x, p, rfl, _⟩, _⟩ := q
    refine ⟨by show (assignEach _ env).length + 1 = _; rw [ih.1]; rfl, ?_⟩
    show List.findIdx? (·.1) ((false, assign (.Name x p) env) :: assignEach _ env) = none
    rw [List.findIdx?_cons]
    simp [ih.2]
theorem setsR_len : ∀ {is : List Nat} {ds : List D} {ρ ρ' : Rho}, setsR ρ is ds = .ok ρ' → ds.length = is.length
  | [], [], _, _, _ => rfl
  | [], _ :: _, _, _, h => by cases h
  | _ :: _, [], _, _, h => by cases h
  | i :: is, d :: ds, ρ, ρ', h => by simp [setsR_len (show setsR _ is ds = .ok ρ' from h)]
theorem pg_tupD {es : List Expr} {is : List Nat} {k : Nat} (hK : X.K = c.K) (hc : X.calm = true) (hN : X.N.Nodup) (h : Paired (TgAt X M) es is) : PG X (.Tuple es k pos) (gT c M (.tup is)) := by
  obtain ⟨h1, h2⟩ := tg_len (env := X.env) h
  refine (pg_tup hc (pgs_D (c := c) hN h) h1 h2).imp fun v σ H Q ⟨H0, Oc, Ts, ρ, d, ρ', env, r, e, k⟩ => ?_
  cases d with
  | tup ds =>
    obtain ⟨a, vs, e1, sq, hl, rr⟩ := rw_tup r
    have e' : setsR ρ is ds = .ok ρ' := e
    refine ⟨a, vs, e1, by rw [hK]; exact sq, by rw [← rr.len]; exact setsR_len e', H0, Oc, Ts, ρ, ds, ρ', env, rr, e', k⟩
  | _ => cases e
end
end MT
end
section
set_option Elab.async false
set_option linter.all false
set_option maxRecDepth 100000
set_option maxHeartbeats 4000000
/-! MtL: comprehensions. -/
namespace MT
open PySem PySem.Spec L2
variable [Pw]
section
variable {c : Cn} {M : List Nat} {X : Cx} {pos : Pos}
/-- nothing is raised within -/
abbrev Cn.q (c : Cn) : Cn := { c with wish := E0 }
def tTs (c : Cn) (M : List Nat) (ifs : List E) : TT := fun σ H Q => ∃ H0 Oc Ts ρ, EnvOk c.K H0 Oc M Ts σ H ρ ∧ Run (tsts c.F ifs ρ) (fun b => ∀ H', Same H H' → Q b H') (XW c H)
theorem _root_.L2.PTs.imp {X : Cx} {e : List Expr} {t t' : TT} (h : PTs X e t) (i : ∀ σ H Q, t' σ H Q → t σ H Q) : PTs X e t' := ⟨fun pins s σ H Q I q => h.run pins s σ H Q I (i σ H Q q)⟩
theorem pts_nilD : PTs X [] (tTs c M []) := pts_nil.imp fun σ H Q ⟨H0, Oc, Ts, ρ, env, r⟩ => by
  simp only [tsts] at r
  exact r H (Same.refl H)
theorem pts_oneD {e : Expr} {ce : E} (h : PT X e (tQ c M ce)) : PTs X [e] (tTs c M [ce]) := (pts_one h).imp fun σ H Q ⟨H0, Oc, Ts, ρ, env, r⟩ => by
  simp only [tsts] at r
  refine tQ_step (Same.refl H) env r fun b H1 s1 env1 r1 => ?_
  cases b with
  | true => exact r1 H1 s1
  | false => exact r1 H1 s1
/-- an element of the comprehension -/
def lcF (F : Nat → List D → R D) (own : List Nat) (tg : Tg) (ifs : List E) (e : E) (ρ : Rho) (d : D) : R (Option D) := do
  let ρ' ← bindT tg d (wipeR ρ own)
  let b ← tsts F ifs ρ'
  if b then (do let x ← ev F e ρ'; .ok (some x)) else .ok none
theorem ev_lc (F : Nat → List D → R D) (own : List Nat) (tg : Tg) (it : Ir) (ifs : List E) (e : E) (ρ : Rho) : ev F (.lc own tg it ifs e) ρ = (do let ds ← its F it ρ; let rs ← mapF (lcF F own tg ifs e ρ) ds; .ok (.lst rs)) := by
  simp only [ev]
  rfl
theorem drop_cons' {α : Type} {l : List α} {i : Nat} {d : α} (h : l[i]? = some d) : l.drop i = d :: l.drop (i + 1) := by
  obtain ⟨hi, e⟩ := List.getElem?_eq_some_iff.mp h
  rw [List.drop_eq_getElem_cons hi, e]
theorem lcF_inv {F : Nat → List D → R D} {own : List Nat} {tg : Tg} {ifs : List E} {e : E} {ρ : Rho} {d : D} {o : Option D} (h : lcF F own tg ifs e ρ d = .ok o) :
    ∃ ρ' b, bindT tg d (wipeR ρ own) = .ok ρ' ∧ tsts F ifs ρ' = .ok b ∧ ((b = true ∧ ∃ x, ev F e ρ' = .ok x ∧ o = some x) ∨ (b = false ∧ o = none)) := by
  unfold lcF at h
  cases h1 : bindT tg d (wipeR ρ own) with
  | exc x => rw [h1] at h; cases h
  | no => rw [h1] at h; cases h
  | ok ρ' =>
    rw [h1] at h
    simp only [ok_bind] at h
    cases h2 : tsts F ifs ρ' with
    | exc x => rw [h2] at h; cases h
    | no => rw [h2] at h; cases h
    | ok b =>
      rw [h2] at h
      simp only [ok_bind] at h
      refine ⟨ρ', b, rfl, h2, ?_⟩
      cases b with
      | false => cases h; exact .inr ⟨rfl, rfl⟩
      | true =>
        left
        refine ⟨rfl, ?_⟩
        cases h3 : ev F e ρ' with
        | exc x => rw [h3] at h; cases h
        | no => rw [h3] at h; cases h
        | ok x => rw [h3] at h; cases h; exact ⟨x, rfl, rfl⟩
theorem wipe_idem {σ : L2.St} {vs : List Nat} : wipe (wipe σ vs) vs = wipe σ vs := by
  apply List.ext_getElem?
  intro j
  rw [wipe_get, wipe_get, wipe_length]
  by_cases hj : j ∈ vs ∧ j < σ.length
  · rw [if_pos hj, if_pos hj]
  · rw [if_neg hj]
theorem Rb.st {K : PySem.W.Frag} {H H' : Hp} {O O' : Addr → Prop} (s : Same H H') (st : Stp O O' H H') : ∀ {d : D} {v : V}, Rb K H O d v → Rb K H' O' d v
  | .non, _, q => q
  | .bl _, _, q => q
  | .int _, _, q => q
  | .str _, _, q => q
  | .tup _, _, q => Rp.step st _ _ q
  | .scr _, _, q => Rp.step st _ _ q
  | .adr _ _, _, q => Rp.step st _ _ q
  | .lst _, _, ⟨a, vs, e, sq, l, r⟩ => ⟨a, vs, e, s _ _ sq, l, Rps.step st _ _ r⟩
  | .dk _ _, _, ⟨a, vs, e, sq, l, l2, l3, l4, r⟩ => ⟨a, vs, e, s _ _ sq, l, l2, l3, l4, Rps.step st _ _ r⟩
  | .dt _ _, _, ⟨a, vs, e, sq, l, l2, l3, l4, l5, r⟩ => ⟨a, vs, e, s _ _ sq, l, l2, l3, l4, l5, fun m hm => ⟨st.sqT (r m hm).1, st.nod (r m hm).2⟩⟩
/-- one turn of the mapping -/
theorem mapF_turn {f : D → R (Option D)} {d : D} {r : List D} {k : List D → Prop} {x : Xc → Prop} (h : Run (mapF f (d :: r)) k x) :
    ∃ o, f d = .ok o ∧ Run (mapF f r) (fun l => k (match o with | some y => y :: l | none => l)) x := by
  unfold mapF at h
  cases h1 : f d with
  | exc e => rw [h1] at h; exact h.elim
  | no => rw [h1] at h; exact h.elim
  | ok o =>
    rw [h1] at h
    refine ⟨o, rfl, ?_⟩
    simp only [nox_ok, ok_bind] at h
    refine (Run.bind.mp h).mono (fun l hl => ?_) fun _ z => z
    cases o <;> exact hl
theorem lc_D {own : List Nat} {tg : Tg} {it : Ir} {ifs : List E} {e : E} (he : bor M e = false) (hM : ∀ i ∈ own, M.contains i = false) (ht : tgIn tg own) (hti : okTI tg it = true) {σ : L2.St} {H : Hp} {Q : VK} (h : tE c M (.lc own tg it ifs e) σ H Q) :
    tLc (tI c M it) (gT c.q M tg) (tTs c.q M ifs) (tE c.q M e) own σ H Q := by
  obtain ⟨H0, Oc, Ts, ρ, env, r⟩ := h
  rw [ev_lc] at r
  refine ⟨H0, Oc, Ts, ρ, env, (Run.bind.mp r).mono (fun ds hd J src H1 s1 wd hsrc _ hlen D' hD => ?_) fun _ z => z⟩
  have env1 := env.same s1
  have al := env1.alloc
  let O := Ow Oc M σ
  let O' : Addr → Prop := Ow (fun a => Oc a ∨ a = D') M σ
  have stO : ∀ {Ha Hb : Hp}, Same Ha Hb → Ha D' = none → Stp O O' Ha Hb := fun {Ha Hb} s hn => ⟨fun a o e _ n => s.all a o e n, fun a xs e => s a _ e, fun a o u e => s a _ e, fun a z => by
    rcases z with (z | z) | z
    · exact .inl (.inl z)
    · exact .inr (by rw [z]; exact hn)
    · exact .inl (.inr z)⟩
  refine lc_it wd.walk (fun i H2 => Same H1 H2 ∧ ∃ acc accd, H2 D' = some (.lst acc) ∧ Rps c.K H2 O' accd acc ∧ accd.length ≤ i ∧
    Run (mapF (lcF c.F own tg ifs e ρ) (ds.drop i)) (fun l => ∀ v H', Same H H' → Vok c M (.lc own tg it ifs e) O H H' (.lst (accd ++ l)) v → Q v H') (XW c H)) ?_ ?_ ?_ ?_
  · exact ⟨Same.new hD, [], [], upd_same, Rps.nil, Nat.zero_le _, (Run.bind.mp hd).mono (fun l k => k) fun _ z => z⟩
  · rintro i H2 _ ⟨s2, _⟩
    exact ⟨O, fun p hp => Rb.same s2 (hsrc p hp)⟩
  · rintro i x H2 H3 hi ⟨s2, acc, accd, eD, ra, hl, run⟩ y
    have hsrc2 : ∀ p ∈ src, Rb c.K H2 O' p.1 p.2 := fun p hp => Rb.st s2 (stO s2 hD) (hsrc p hp)
    have env2 : EnvOk c.K H0 (fun a => Oc a ∨ a = D') M [] σ H2 ρ := env1.avoid s2 hD (by rw [eD]; simp)
    obtain ⟨s3, d, hd3, rx'⟩ := y O' env2.alloc hsrc2
    rw [drop_cons' hd3] at run
    obtain ⟨o, ef, run'⟩ := mapF_turn run
    obtain ⟨ρ', b, eb, et, ho⟩ := lcF_inv ef
    have env3 := (env2.same s3).wipe hM
    have ow3 : Ow (fun a => Oc a ∨ a = D') M (wipe σ own) = O' := ow_wipe hM
    have s13 := s2.trans s3
    have eD3 : H3 D' = some (.lst acc) := s3 _ _ eD
    refine ⟨H0, _, [], _, d, ρ', env3, by rw [ow3]; exact rg_of hti rx', eb, fun σ2 env4 hw how => ⟨(hw own ht).trans wipe_idem, ?_⟩⟩
    have ow4 : Ow (fun a => Oc a ∨ a = D') M σ2 = O' := how.trans ow3
    refine ⟨H0, _, [], ρ', env4, .ok2 et fun H4 s4 => ?_⟩
    have env5 := env4.same s4
    cases b with
    | false =>
      refine iteF ?_
      rcases ho with ⟨z, _⟩ | ⟨_, rfl⟩
      · cases z
      · exact ⟨s13.trans s4, acc, accd, s4 _ _ eD3, Rps.step (Stp.same (s3.trans s4)) _ _ ra, by omega, run'⟩
    | true =>
      refine iteT ?_
      rcases ho with ⟨_, xv, ee, rfl⟩ | ⟨z, _⟩
      · refine ⟨H0, _, [], ρ', env5, .ok2 ee fun yv H5 s5 vk => ?_⟩
        have ry : Rp c.K H5 O' xv yv := by rw [← ow4]; exact vk.2.1 he
        have eD5 : H5 D' = some (.lst acc) := s5 _ _ (s4 _ _ eD3)
        have ra5 := Rps.step (Stp.same (s3.trans (s4.trans s5))) _ _ ra
        refine ⟨acc, eD5, ?_, ?_⟩
        · rw [← ra.len, ← lim_eq]; omega
        · have s15 := s13.trans (s4.trans s5)
          have stD : Stp O' O' H5 (upd H5 D' (.lst (acc ++ [yv]))) := ⟨fun a o e n _ => by rw [upd_ne (fun q => n (.inl (.inr q)))]; exact e, fun a xs e => by rw [upd_ne (fun q => by rw [q, eD5] at e; cases e)]; exact e,
            fun a o u e => by rw [upd_ne (fun q => by rw [q, eD5] at e; cases e)]; exact e, fun a z => .inl z⟩
          refine ⟨s15.updO hD eD5 (nc_lst _ _), acc ++ [yv], accd ++ [xv], upd_same, Rps.step stD _ _ (ra5.append (Rps.cons ry Rps.nil)), by simp; omega, run'.mono (fun l k => ?_) fun _ z => z⟩
          · rw [List.append_assoc]; exact k
      · cases z
  · rintro H2 ⟨s2, acc, accd, eD, ra, hl, run⟩
    rw [List.drop_length] at run
    have run' : ∀ v H', Same H H' → Vok c M (.lc own tg it ifs e) O H H' (.lst (accd ++ [])) v → Q v H' := run
    rw [List.append_nil] at run'
    have stQ : Stp O' (fun b => O b ∨ b = D') H2 H2 := ⟨fun a o e _ _ => e, fun a xs e => e, fun a o u e => e, fun a z => by
      rcases z with (z | z) | z
      · exact .inl (.inl (.inl z))
      · exact .inl (.inr z)
      · exact .inl (.inl (.inr z))⟩
    refine run' _ H2 (s1.trans s2) (Vok.of rfl s1 ⟨?_, fun _ => ⟨D', rfl, hD, D', acc, rfl, eD, by omega, Rps.step stQ _ _ ra⟩⟩)
    simp only [Rp]
    refine ⟨D', acc, rfl, fun z => al D' z hD, eD, by omega, Rps.step (⟨fun a o e _ _ => e, fun a xs e => e, fun a o u e => e, fun a z => ?_⟩ : Stp O' O H2 H2) _ _ ra⟩
    rcases z with z | z
    · exact .inl (.inl (.inl z))
    · exact .inl (.inr z)
end
end MT
end
section
set_option Elab.async false
set_option linter.all false
set_option maxRecDepth 100000
set_option maxHeartbeats 4000000
/-! Mt6: dicts whose keys are tuples: put. -/
namespace MT
open PySem PySem.Spec L2 PyProof.Rows
variable [Pw]
abbrev KTup (P : Program) (w : World) (h : Heap) (k : List L2.Key) (a : Addr) : Prop := IsTupleKey (mixKind P w) h k a
section
variable {X : Cx} {pins : List (Addr × Obj)} {σ : L2.St} {H : Hp} {s : Shared}
theorem items_of {ks : List L2.Key} {us : List Value} (r : Vals (ks.map kV) us) : ItemsAre (mixKind X.prog X.w) ks us := by
  induction ks generalizing us with
  | nil => cases r; exact .nil
  | cons k ks ih => cases r with | cons h t => exact .cons (kV_is h) (ih t)
theorem ktup_of {a : Addr} {ks : List L2.Key} (I : Inv X pins σ H s) (sq : SqT X.K H a (ks.map kV)) : KTup X.prog X.w s.heap ks a := by
  obtain ⟨its, rv, pl, hz⟩ := I.tuple sq
  obtain ⟨o, ho, hc, n, hd⟩ := (show s.heap.IsTuple a its.toArray from pl)
  exact ⟨o, its.toArray, n, ho, hc, hd, by simpa using items_of rv⟩
theorem dicT_get {a : Addr} {L : List (Addr × List L2.Key)} (I : Inv X pins σ H s) (ha : H a = some (DicTO X.prog X.w a L)) : DicO X.prog X.w a L s.heap := (I.hok a _ ha).1
abbrev trip (L : List (Addr × List L2.Key)) : List (List L2.Key × Addr × Value) := L.map fun m => (m.2, m.1, Value.bool true)
def hasM (k : List L2.Key) (L : List (Addr × List L2.Key)) : Bool := L.any fun m => decide (m.2 = k)
omit [Pw] in
theorem hasM_iff {k : List L2.Key} {L : List (Addr × List L2.Key)} : hasM k L = true ↔ k ∈ L.map (·.2) := by
  unfold hasM
  rw [List.any_eq_true, List.mem_map]
  constructor
  · rintro ⟨m, hm, e⟩; exact ⟨m, hm, of_decide_eq_true e⟩
  · rintro ⟨m, hm, e⟩; exact ⟨m, hm, decide_eq_true e⟩
def putM (b : Addr) (k : List L2.Key) (L : List (Addr × List L2.Key)) : List (Addr × List L2.Key) := if hasM k L = true then L else L ++ [(b, k)]
theorem trip_put (b : Addr) (k : List L2.Key) (L : List (Addr × List L2.Key)) : storedH (trip L) k b (.bool true) = trip (putM b k L) := by
  have key : (atKey (trip L) k).isSome = hasM k L := by
    unfold atKey
    rw [Option.isSome_map, Bool.eq_iff_iff, List.find?_isSome, hasM_iff, List.mem_map]
    constructor
    · rintro ⟨x, hx, e⟩
      obtain ⟨m, hm, rfl⟩ := List.mem_map.mp hx
      exact ⟨m, hm, of_decide_eq_true e⟩
    · rintro ⟨m, hm, e⟩
      exact ⟨_, List.mem_map.mpr ⟨m, hm, rfl⟩, decide_eq_true e⟩
  unfold storedH putM
  rw [key]
  by_cases h : hasM k L = true
  · rw [if_pos h, if_pos h]
    unfold trip
    rw [List.map_map]
    refine List.map_congr_left fun m _ => ?_
    simp only [Function.comp, putAt]
    split <;> rfl
  · rw [if_neg h, if_neg h]
    simp [trip]
/-- d[t] = True -/
def sDPutT (X : Cx) (td ty tv : TE) : TS := fun D σ H => tv σ H fun v H1 => td σ H1 fun x H2 => ty σ H2 fun y H3 => ∃ (a b : Addr) (L : List (Addr × List L2.Key)) (k : List L2.Key), x = .ref a ∧ y = .ref b ∧ v = .bl true ∧ H3 a = some (DicTO X.prog X.w a L) ∧
  (L.map (·.2)).Nodup ∧ L.length ≤ sizeLine ∧ (∀ m ∈ L, SqT X.K H3 m.1 (m.2.map kV)) ∧ SqT X.K H3 b (k.map kV) ∧ D.nx σ (upd H3 a (DicTO X.prog X.w a (putM b k L)))
theorem ps_dputT {o i value : Expr} {pos pos' : Pos} {td ty tv : TE} (hu : X.A.units + 1 < cLine) (ho : PE X o td) (hi : PE X i ty) (hv : PE X value tv) (hs : swapsWith value (some (.Subscript o i pos')) pos.line X.env = pure false) :
    PS X (.Assign [.Subscript o i pos'] value pos) (sDPutT X td ty tv) := by
  refine ⟨fun pins s σ H D I h => ?_⟩
  refine wpAny_Assign_Subscript (thn (hv.run pins s σ H _ I h) fun r s1 ⟨v, H1, I1, rv, q1⟩ => thn (ho.run pins s1 σ H1 _ I1 q1) fun u s2 ⟨x, H2, I2, rx, q2⟩ => thn (hi.run pins s2 σ H2 _ I2 q2) fun iv s3 ⟨y, H3, I3, ry, a, b, L, k, ex, ey, ev, ha, nd, hl, sq, sb, q3⟩ => ?_) hs
  subst ex ey ev
  obtain rfl : u = Value.ref a := rx
  obtain rfl : iv = Value.ref b := ry
  obtain rfl : r = Value.bool true := rv
  obtain ⟨lo, o, es, ep, h1, h2, h3, h4⟩ := dicT_get I3 ha
  have dd : s3.heap.DictOfH (tupleKind (mixKind X.prog X.w)) a (trip L) := ⟨o, es, ep, h1, h2, h3, h4, fun x hx => by
    obtain ⟨m, hm, rfl⟩ := List.mem_map.mp hx
    exact ktup_of I3 (sq m hm), by rw [List.map_map]; exact nd⟩
  refine wpAny_setItem_heap (hsz := by rw [List.length_map]; exact hl) (tupleKind_room_in1 hu) (ktup_of I3 sb) dd fun h' dd' hs => ?_
  rw [trip_put] at dd'
  obtain ⟨q, es', ep', hq, k2, k3, k4, _, _⟩ := dd'
  exact ⟨σ, _, d_write I3 (by rw [ha]; exact True.intro) hs ⟨q, hq⟩ (dicT_new ⟨lo, q, es', ep', hq, k2, k3, k4⟩), q3⟩
end
end MT
end
section
set_option Elab.async false
set_option linter.all false
set_option maxRecDepth 100000
set_option maxHeartbeats 4000000
/-! MtM: statements, by data. -/
namespace MT
open PySem PySem.Spec L2
variable [Pw]
section
variable {K : PySem.W.Frag} {H0 H H1 : Hp} {Oc : Addr → Prop} {M : List Nat} {Ts : List (D × V)} {σ : L2.St} {ρ : Rho}
/-- a new thing goes to an owning slot -/
theorem EnvOk.setM {i : Nat} {v : V} {d : D} (env : EnvOk K H0 Oc M Ts σ H ρ) (s : Same H H1) (hi : i < ρ.length) (hM : M.contains i = true) (hm : d.mut = true) (n : NwT K H H1 (Ow Oc M σ) d v) : EnvOk K H0 Oc M Ts (σ.set i (some v)) H1 (setR ρ i d) := by
  obtain ⟨a, rfl, ha, rb⟩ := n
  have hiσ : i < σ.length := by rw [env.len]; exact hi
  have sub : ∀ b, Ow Oc M (σ.set i (some (.ref a))) b → Ow Oc M σ b ∨ b = a := fun b z => by
    rcases z with z | ⟨j, hj, e⟩
    · exact .inl (.inl z)
    · by_cases hij : i = j
      · subst hij
        rw [List.getElem?_set_self hiσ] at e
        cases e; exact .inr rfl
      · rw [List.getElem?_set_ne hij] at e
        exact .inl (.inr ⟨j, hj, e⟩)
  have st : Stp (Ow Oc M σ) (Ow Oc M (σ.set i (some (.ref a)))) H H1 := ⟨fun b o e _ n => s.all b o e n, fun b xs e => s b _ e, fun b o u e => s b _ e, fun b z => (sub b z).imp id fun q => by rw [q]; exact ha⟩
  have st2 : Stp (fun b => Ow Oc M σ b ∨ b = a) (Ow Oc M (σ.set i (some (.ref a)))) H1 H1 := ⟨fun b o e _ _ => e, fun b xs e => e, fun b o u e => e, fun b z => .inl (sub b z)⟩
  refine ⟨by simp [setR, env.len], env.base.trans s, (env.same s).oc, fun j e hj => ?_, fun j b hj e => ?_, fun j l b hj hl e1 e2 => ?_, fun p hp => Rp.step st _ _ (env.tmp p hp), env.tabs⟩
  · unfold setR at hj
    by_cases hij : i = j
    · subst hij
      rw [List.getElem?_set_self hi] at hj
      cases hj
      exact ⟨_, by rw [List.getElem?_set_self hiσ], (fun z => by rw [hM] at z; cases z), fun _ => ⟨Rb.st (Same.refl _) st2 rb, hm⟩⟩
    · rw [List.getElem?_set_ne hij] at hj
      obtain ⟨w, e1, q1, q2⟩ := env.val j e hj
      exact ⟨w, by rw [List.getElem?_set_ne hij]; exact e1, fun z => Rp.step st _ _ (q1 z), fun z => ⟨Rb.st s st (q2 z).1, (q2 z).2⟩⟩
  · by_cases hij : i = j
    · subst hij
      rw [List.getElem?_set_self hiσ] at e
      cases e
      refine ⟨env.base.free ha, d, by unfold setR; rw [List.getElem?_set_self hi]⟩
    · rw [List.getElem?_set_ne hij] at e
      obtain ⟨h1, d', h2⟩ := env.own j b hj e
      exact ⟨h1, d', by unfold setR; rw [List.getElem?_set_ne hij]; exact h2⟩
  · have na : ∀ j, M.contains j = true → i ≠ j → σ[j]? = some (some (V.ref a)) → False := fun j hj _ e => env.alloc a (.inr ⟨j, hj, e⟩) ha
    by_cases hij : i = j
    · subst hij
      by_cases hil : i = l
      · exact hil
      · rw [List.getElem?_set_self hiσ] at e1
        cases e1
        rw [List.getElem?_set_ne hil] at e2
        exact (na l hl hil e2).elim
    · by_cases hil : i = l
      · subst hil
        rw [List.getElem?_set_self hiσ] at e2
        cases e2
        rw [List.getElem?_set_ne hij] at e1
        exact (na j hj hij e1).elim
      · rw [List.getElem?_set_ne hij] at e1
        rw [List.getElem?_set_ne hil] at e2
        exact env.dist j l b hj hl e1 e2
/-- an owned thing changes -/
theorem EnvOk.chg {i : Nat} {a : Addr} {o : HO} {d d' : D} (env : EnvOk K H0 Oc M Ts σ H ρ) (hM : M.contains i = true) (hi : ρ[i]? = some (some d)) (hv : σ[i]? = some (some (.ref a))) (hm : ∀ xs, H a ≠ some (.tup xs)) (hf : ∀ ob u, H a ≠ some (.frz ob u))
    (hoc : ¬ Oc a) (hm' : d'.mut = true) (rb : Rb K (upd H a o) (Ow Oc M σ) d' (.ref a)) : EnvOk K H0 Oc M Ts σ (upd H a o) (setR ρ i d') := by
  have hO : Ow Oc M σ a := .inr ⟨i, hM, hv⟩
  have st : Stp (Ow Oc M σ) (Ow Oc M σ) H (upd H a o) := ⟨fun b x e n _ => by rw [upd_ne (fun q => n (by rw [q]; exact hO))]; exact e, fun b xs e => by rw [upd_ne (fun q => hm xs (by rw [← q]; exact e))]; exact e,
    fun b ob u e => by rw [upd_ne (fun q => hf ob u (by rw [← q]; exact e))]; exact e, fun b z => .inl z⟩
  obtain ⟨h0, _⟩ := env.own i a hM hv
  have hnc : ∃ o0, H a = some o0 ∧ NC a o0 := by
    obtain ⟨w, e1, _, q2⟩ := env.val i d hi
    rw [hv] at e1
    cases e1
    exact Rb.nc (q2 hM).1 (q2 hM).2
  obtain ⟨o0, ho0, hnc⟩ := hnc
  refine ⟨by simp [setR, env.len], env.base.updO h0 ho0 hnc, fun b z => ?_, fun j e hj => ?_, fun j b hj e => ?_, env.dist, fun p hp => Rp.step st _ _ (env.tmp p hp), env.tabs⟩
  · rw [upd_ne (fun q => hoc (by rw [← q]; exact z))]; exact env.oc b z
  · unfold setR at hj
    by_cases hij : i = j
    · subst hij
      have hlt : i < ρ.length := (List.getElem?_eq_some_iff.mp hi).1
      rw [List.getElem?_set_self hlt] at hj
      cases hj
      exact ⟨_, hv, (fun z => by rw [hM] at z; cases z), fun _ => ⟨rb, hm'⟩⟩
    · rw [List.getElem?_set_ne hij] at hj
      obtain ⟨w, e1, q1, q2⟩ := env.val j e hj
      refine ⟨w, e1, fun z => Rp.step st _ _ (q1 z), fun z => ⟨?_, (q2 z).2⟩⟩
      obtain ⟨b, e2, nb⟩ := Rb.ref (q2 z).1 (q2 z).2
      subst e2
      have hba : b ≠ a := fun q => hij (env.dist i j a hM z hv (by rw [← q]; exact e1))
      have rb' := (q2 z).1
      have hmm := (q2 z).2
      cases e with
      | lst ds => obtain ⟨a', vs, e, sq, l, r⟩ := rb'; cases e; exact ⟨_, vs, rfl, by rw [upd_ne hba]; exact sq, l, Rps.step st _ _ r⟩
      | dk ks ds => obtain ⟨a', vs, e, sq, l, l2, l3, l4, r⟩ := rb'; cases e; exact ⟨_, vs, rfl, by rw [upd_ne hba]; exact sq, l, l2, l3, l4, Rps.step st _ _ r⟩
      | dt ks ds => obtain ⟨a', vs, e, sq, l, l2, l3, l4, l5, r⟩ := rb'; cases e; exact ⟨_, vs, rfl, by rw [upd_ne hba]; exact sq, l, l2, l3, l4, l5, fun m hm => ⟨st.sqT (r m hm).1, st.nod (r m hm).2⟩⟩
      | _ => cases hmm
  · obtain ⟨h1, d2, h2⟩ := env.own j b hj e
    refine ⟨h1, ?_⟩
    unfold setR
    by_cases hij : i = j
    · subst hij
      have hlt : i < ρ.length := (List.getElem?_eq_some_iff.mp hi).1
      exact ⟨d', by rw [List.getElem?_set_self hlt]⟩
    · exact ⟨d2, by rw [List.getElem?_set_ne hij]; exact h2⟩
end
section
variable {c : Cn} {M : List Nat} {X : Cx} {pos : Pos} {W : Nat} {fr : Bool}
/-- what stands behind a statement -/
def FlOk (c : Cn) (M : List Nat) (fr : Bool) (H0 : Hp) (Oc : Addr → Prop) (Ts : List (D × V)) (N : Ends) : Fl → Prop
  | .nx ρ' => ∀ σ' H', EnvOk c.K H0 Oc M Ts σ' H' ρ' → N.nx σ' H'
  | .bk ρ' => ∀ σ' H', EnvOk c.K H0 Oc M Ts σ' H' ρ' → N.bk σ' H'
  | .ct ρ' => ∀ σ' H', EnvOk c.K H0 Oc M Ts σ' H' ρ' → N.ct σ' H'
  | .rt d => ∀ v H', Same H0 H' → Rp c.K H' Oc d v → (fr = true → d.mut = true → NwT c.K H0 H' Oc d v) → N.rt v H'
def tSD (c : Cn) (W : Nat) (M : List Nat) (fr : Bool) (s : Sm) : TS := fun N σ H => ∃ H0 Oc Ts ρ, (∀ a, Oc a → H0 a ≠ none) ∧ EnvOk c.K H0 Oc M Ts σ H ρ ∧ Run (ex c.F W M s ρ) (FlOk c M fr H0 Oc Ts N) (XW c H0)
def tSsD (c : Cn) (W : Nat) (M : List Nat) (fr : Bool) (ss : List Sm) : TS := fun N σ H => ∃ H0 Oc Ts ρ, (∀ a, Oc a → H0 a ≠ none) ∧ EnvOk c.K H0 Oc M Ts σ H ρ ∧ Run (exs c.F W M ss ρ) (FlOk c M fr H0 Oc Ts N) (XW c H0)
theorem pss_nilD : PSs X [] (tSsD c W M fr []) := pss_nil.imp fun N σ H ⟨H0, Oc, Ts, ρ, ho, env, r⟩ => by
  simp only [exs] at r
  exact r σ H env
theorem pss_consD {s : Stmt} {ss : List Stmt} {cs : Sm} {css : List Sm} (h1 : PS X s (tSD c W M fr cs)) (h2 : PSs X ss (tSsD c W M fr css)) : PSs X (s :: ss) (tSsD c W M fr (cs :: css)) := by
  refine (pss_cons h1 h2).imp fun N σ H ⟨H0, Oc, Ts, ρ, ho, env, r⟩ => ?_
  simp only [exs] at r
  refine ⟨H0, Oc, Ts, ρ, ho, env, (Run.bind.mp r).mono (fun f hf => ?_) fun _ z => z⟩
  cases f with
  | nx ρ' => exact fun σ' H' env' => ⟨H0, Oc, Ts, ρ', ho, env', hf⟩
  | bk ρ' => exact hf
  | ct ρ' => exact hf
  | rt d => exact hf
theorem ps_iteD {t : Expr} {a b : List Stmt} {ct : E} {ca cb : List Sm} (ht : PT X t (tQ c M ct)) (ha : PSs X a (tSsD c W M fr ca)) (hb : PSs X b (tSsD c W M fr cb)) : PS X (.If t a b pos) (tSD c W M fr (.ite ct ca cb)) := by
  refine (ps_if ht ha hb).imp fun N σ H ⟨H0, Oc, Ts, ρ, ho, env, r⟩ => ?_
  simp only [ex] at r
  refine tQ_step env.base env r fun k H1 s1 env1 r1 => ?_
  cases k with
  | true => exact ⟨H0, Oc, Ts, ρ, ho, env1, r1⟩
  | false => exact ⟨H0, Oc, Ts, ρ, ho, env1, r1⟩
theorem ps_retD {e : Expr} {ce : E} (he : PE X e (tE c M ce)) (hb : bor M ce = false) (hf : fr = true → fresh c.frf ce = true) : PS X (.Return (some e) pos) (tSD c W M fr (.ret ce)) := by
  refine (ps_ret he).imp fun N σ H ⟨H0, Oc, Ts, ρ, ho, env, r⟩ => ?_
  simp only [ex] at r
  refine tE_step env.base env r fun v H1 d s1 vk env1 r1 => ?_
  refine r1 v H1 env1.base (Rp.step (⟨fun a o e _ _ => e, fun a xs e => e, fun a o u e => e, fun a z => .inl (.inl z)⟩ : Stp (Ow Oc M σ) Oc H1 H1) _ _ (vk.2.1 hb)) fun hz hm => ?_
  obtain ⟨a, e1, e2, e3⟩ := vk.2.2 (hf hz) hm
  exact ⟨a, e1, env.base.free e2, Rb.st (Same.refl _) ⟨fun a o e _ _ => e, fun a xs e => e, fun a o u e => e, fun b z => .inl (z.imp (fun q => .inl q) id)⟩ e3⟩
theorem getD_some {ρ : Rho} {i : Nat} {d : D} (h : ρ.getD i none = some d) : ρ[i]? = some (some d) := by
  rw [List.getD_eq_getElem?_getD] at h
  cases q : ρ[i]? with
  | none => rw [q] at h; cases h
  | some o => rw [q] at h; simp at h; rw [h]
/-- what an owning slot bears -/
theorem own_at {K : PySem.W.Frag} {H0 H : Hp} {Oc : Addr → Prop} {Ts : List (D × V)} {σ : L2.St} {ρ : Rho} {i : Nat} {d : D} (ho : ∀ a, Oc a → H0 a ≠ none) (env : EnvOk K H0 Oc M Ts σ H ρ) (hM : M.contains i = true) (e : ρ[i]? = some (some d)) :
    ∃ a, σ[i]? = some (some (.ref a)) ∧ Rb K H (Ow Oc M σ) d (.ref a) ∧ d.mut = true ∧ H0 a = none ∧ ¬ Oc a := by
  obtain ⟨v, e1, _, q⟩ := env.val i d e
  obtain ⟨a, rfl, _⟩ := Rb.ref (q hM).1 (q hM).2
  obtain ⟨h0, _⟩ := env.own i a hM e1
  exact ⟨a, e1, (q hM).1, (q hM).2, h0, fun z => ho a z h0⟩
theorem ps_retOwn {i : Nat} {x : Str} {p : Pos} (hN : X.N[i]? = some x) (hv : Vis X.env.scope x) (hd : (x == ("__debug__" : Str)) = false) (hcd : (x == ("__classdict__" : Str)) = false) (hM : M.contains i = true) : PS X (.Return (some (.Name x p)) pos) (tSD c W M fr (.ret (.var i))) := by
  refine (ps_ret (pe_var hN hv hd hcd)).imp fun N σ H ⟨H0, Oc, Ts, ρ, ho, env, r⟩ => ?_
  simp only [ex, ev] at r
  obtain ⟨d, e, k⟩ := (Run.bind.mp r).nx (NX.ofO _)
  obtain ⟨a, e1, rb, hm, h0, hoc⟩ := own_at ho env hM (getD_some (ofO_ok e))
  refine ⟨_, e1, k _ H env.base ?_ fun _ _ => ⟨a, rfl, h0, Rb.st (Same.refl _) ⟨fun a o e _ _ => e, fun a xs e => e, fun a o u e => e, fun b z => .inl ?_⟩ rb⟩⟩
  · have st : Stp (Ow Oc M σ) Oc H H := ⟨fun a o e _ _ => e, fun a xs e => e, fun a o u e => e, fun a z => .inl (.inl z)⟩
    cases d with
    | lst ds => obtain ⟨b, vs, e, sq, l, r⟩ := rb; cases e; simp only [Rp]; exact ⟨_, vs, rfl, hoc, sq, l, Rps.step st _ _ r⟩
    | dk ks ds => obtain ⟨b, vs, e, sq, l, l2, l3, l4, r⟩ := rb; cases e; simp only [Rp]; exact ⟨_, vs, rfl, hoc, sq, l, l2, l3, l4, Rps.step st _ _ r⟩
    | dt ks ds => obtain ⟨b, vs, e, sq, l, l2, l3, l4, l5, r⟩ := rb; cases e; simp only [Rp]; exact ⟨_, vs, rfl, hoc, sq, l, l2, l3, l4, l5, fun m hm => ⟨st.sqT (r m hm).1, st.nod (r m hm).2⟩⟩
    | _ => cases hm
  · rcases z with z | z
    · exact .inl z
    · exact .inr ⟨i, hM, by rw [z]; exact e1⟩
/-! ### stores -/
theorem exec_asg {F : Nat → List D → R D} {i : Nat} {e : E} {ρ : Rho} : ex F W M (.asg i e) ρ = (do let d ← ev F e ρ; if M.contains i && !d.mut then .no else .ok (.nx (setR ρ i d))) := by simp only [ex]
/-- what a store of a value makes -/
theorem asg_fin {ce : E} {i : Nat} (hb : bor M ce = false) (hf : M.contains i = true → fresh c.frf ce = true) {N : Ends} {σ : L2.St} {H : Hp} (hlen : ∀ {ρ : Rho}, σ.length = ρ.length → M.contains i = true → i < ρ.length) (h : tSD c W M fr (.asg i ce) N σ H) :
    tE c M ce σ H fun x H1 => N.nx (σ.set i (some x)) H1 := by
  obtain ⟨H0, Oc, Ts, ρ, ho, env, r⟩ := h
  rw [exec_asg] at r
  refine tE_step env.base env r fun v H1 d s1 vk env1 r1 => ?_
  cases hM : M.contains i with
  | false =>
    rw [hM] at r1
    exact r1 _ H1 (env1.set hM (vk.2.1 hb))
  | true =>
    rw [hM] at r1
    cases hm : d.mut with
    | false => rw [hm] at r1; exact r1.elim
    | true =>
      rw [hm] at r1
      exact r1 _ H1 (env.setM s1 (hlen env.len hM) hM hm (vk.2.2 (hf hM) hm))
theorem ps_asgD {e : Expr} {ce : E} {i : Nat} {x : Str} {p : Pos} (he : PE X e (tE c M ce)) (hN : X.N.Nodup) (hi : X.N[i]? = some x) (hx : Loc X.env.scope x) (hfn : X.fn x = true ∨ X.env.scope.names.lookup x = some .local) (hb : bor M ce = false) (hf : M.contains i = true → fresh c.frf ce = true)
    (hs : swapsWithSole [.Name x p] e pos.line X.env = pure false) (hw : swappedStores [.Name x p] e X.env = pure none) : PS X (.Assign [.Name x p] e pos) (tSD c W M fr (.asg i ce)) := by
  refine ⟨fun pins s σ H D I h => ?_⟩
  have hl : σ.length = X.N.length := I.len
  refine (ps_asg he (pg_name hN hi hx hfn) hs hw rfl).run pins s σ H D I ?_
  exact asg_fin hb hf (fun e _ => by rw [← e, hl]; exact (List.getElem?_eq_some_iff.mp hi).1) h
theorem nx_sets : ∀ (is : List Nat) (xs : List D) (ρ : Rho), NX (setsR ρ is xs)
  | [], [], ρ => NX.ok _
  | [], _ :: _, ρ => NX.no
  | _ :: _, [], ρ => NX.no
  | i :: is, d :: xs, ρ => nx_sets is xs _
theorem _root_.L2.PS.or {X : Cx} {e : Stmt} {t t' : TS} (h : PS X e t) (h' : PS X e t') : PS X e (fun D σ H => t D σ H ∨ t' D σ H) := ⟨fun pins s σ H Q I q => q.elim (h.run pins s σ H Q I) (h'.run pins s σ H Q I)⟩
/-- a list unpacked -/
def gTL (c : Cn) (M : List Nat) (is : List Nat) : TG := fun v σ H Q => ∃ H0 Oc Ts ρ ds ρ' a vs, EnvOk c.K H0 Oc M Ts σ H ρ ∧ v = .ref a ∧ H a = some (.lst vs) ∧ Rps c.K H (Ow Oc M σ) ds vs ∧ setsR ρ is ds = .ok ρ' ∧
  ∀ σ', EnvOk c.K H0 Oc M Ts σ' H ρ' → Q σ' H
theorem pg_lstD {es : List Expr} {is : List Nat} {k : Nat} (hK : X.K = c.K) (hc : X.calm = true) (hN : X.N.Nodup) (h : Paired (TgAt X M) es is) : PG X (.Tuple es k pos) (gTL c M is) := by
  obtain ⟨h1, h2⟩ := tg_len (env := X.env) h
  refine (pg_unl hc (pgs_D (c := c) hN h) h1 h2).imp fun v σ H Q ⟨H0, Oc, Ts, ρ, ds, ρ', a, vs, env, ev, sq, rr, e, k⟩ => ?_
  exact ⟨a, vs, ev, SqL.of sq, by rw [← rr.len]; exact setsR_len e, H0, Oc, Ts, ρ, ds, ρ', env, rr, e, fun σ' env' _ _ => k σ' env'⟩
theorem ps_asgTD {e : Expr} {ce : E} {es : List Expr} {is : List Nat} {k : Nat} {p : Pos} (hK : X.K = c.K) (hc : X.calm = true) (hN : X.N.Nodup) (he : PE X e (tE c M ce)) (hb : bor M ce = false) (h : Paired (TgAt X M) es is)
    (hs : swapsWithSole [.Tuple es k p] e pos.line X.env = pure false) (hw : swappedStores [.Tuple es k p] e X.env = pure none) : PS X (.Assign [.Tuple es k p] e pos) (tSD c W M fr (.asgT is ce)) := by
  refine ((ps_asg he (pg_tupD (c := c) (k := k) hK hc hN h) hs hw rfl).or (ps_asg he (pg_lstD (c := c) (k := k) hK hc hN h) hs hw rfl)).imp fun N σ H ⟨H0, Oc, Ts, ρ, ho, env, r⟩ => ?_
  simp only [ex] at r
  cases hev : ev c.F ce ρ with
  | no => rw [hev] at r; exact r.elim
  | exc x => rw [hev] at r; exact .inl ⟨H0, Oc, Ts, ρ, env, by rw [hev]; exact XW.mono env.base r⟩
  | ok d =>
    rw [hev] at r
    cases d with
    | lst xs =>
      obtain ⟨ρ', hq, r2⟩ := (Run.bind.mp (show Run (do let ρ' ← setsR ρ is xs; R.ok (Fl.nx ρ')) (FlOk c M fr H0 Oc Ts N) (XW c H0) from r)).nx (nx_sets _ _ _)
      refine .inr ⟨H0, Oc, Ts, ρ, env, .ok2 hev fun v H1 s1 vk => ?_⟩
      obtain ⟨a, vs, e1, sq, hl, rr⟩ := rb_lst vk.rb
      exact ⟨H0, Oc, Ts, ρ, xs, ρ', a, vs, env.same s1, e1, sq, rr, hq, fun σ' env' => r2 σ' H1 env'⟩
    | tup xs =>
      obtain ⟨ρ', hq, r2⟩ := (Run.bind.mp (show Run (do let ρ' ← setsR ρ is xs; R.ok (Fl.nx ρ')) (FlOk c M fr H0 Oc Ts N) (XW c H0) from r)).nx (nx_sets _ _ _)
      refine .inl ⟨H0, Oc, Ts, ρ, env, .ok2 hev fun v H1 s1 vk => ?_⟩
      exact ⟨H0, Oc, Ts, ρ, .tup xs, ρ', env.same s1, Rp.w (vk.2.1 hb), hq, fun σ' env' _ _ => r2 σ' H1 env'⟩
    | _ => exact r.elim
/-- the text's own store from the right: two or three names -/
def parN : List Expr → Option (List Str)
  | [.Name x _, .Name y _] => some [x, y]
  | [.Name x _, .Name y _, .Name z _] => some [x, y, z]
  | _ => none
theorem ps_parD {a b : Expr} {ces : List E} {i j : Nat} {x y : Str} {px py pt : Pos} {kt k2 : Nat} {pt2 : Pos} (hc : X.calm = true) (hN : X.N.Nodup) (hi : X.N[i]? = some x) (hj : X.N[j]? = some y) (hij : i ≠ j) (hx : X.env.scope.names.lookup x = some .local) (hy : X.env.scope.names.lookup y = some .local)
    (mi : M.contains i = false) (mj : M.contains j = false) (ha : PA X [a, b] (tAs c M ces)) (hw : swappedStores [.Tuple [.Name x px, .Name y py] kt pt] (.Tuple [a, b] k2 pt2) X.env = pure (some [x, y])) :
    PS X (.Assign [.Tuple [.Name x px, .Name y py] kt pt] (.Tuple [a, b] k2 pt2) pos) (tSD c W M fr (.asgP [i, j] ces)) := by
  refine (ps_par hc hN hi hj hij hx hy ha hw).imp fun N σ H ⟨H0, Oc, Ts, ρ, ho, env, r⟩ => ?_
  simp only [ex] at r
  refine tA_step env.base env r fun vs H1 ds s1 rs env1 r1 => ?_
  obtain ⟨ρ', hq, r2⟩ := (Run.bind.mp r1).nx (nx_sets _ _ _)
  match ds, rs, hq with
  | [d1, d2], rs, hq =>
    obtain ⟨v1, w1, rfl, q1, rs⟩ := rs.inv
    obtain ⟨v2, w2, rfl, q2, rs⟩ := rs.inv
    have := rs.inv0
    subst this
    cases hq
    refine ⟨v1, v2, rfl, r2 _ H1 ?_⟩
    exact (env1.set mi q1).set mj (by rw [ow_set mi]; exact q2)
  | [], rs, hq => cases hq
  | [_], rs, hq => cases hq
  | _ :: _ :: _ :: _, rs, hq => cases hq
theorem ps_par3D {a b d : Expr} {ces : List E} {i j l : Nat} {x y z : Str} {px py pz pt : Pos} {kt k2 : Nat} {pt2 : Pos} (hc : X.calm = true) (hN : X.N.Nodup) (hi : X.N[i]? = some x) (hj : X.N[j]? = some y) (hl : X.N[l]? = some z) (hij : i ≠ j) (hil : i ≠ l) (hjl : j ≠ l) (hx : X.env.scope.names.lookup x = some .local) (hy : X.env.scope.names.lookup y = some .local) (hz : X.env.scope.names.lookup z = some .local)
    (mi : M.contains i = false) (mj : M.contains j = false) (ml : M.contains l = false) (ha : PA X [a, b, d] (tAs c M ces)) (hw : swappedStores [.Tuple [.Name x px, .Name y py, .Name z pz] kt pt] (.Tuple [a, b, d] k2 pt2) X.env = pure (some [x, y, z])) :
    PS X (.Assign [.Tuple [.Name x px, .Name y py, .Name z pz] kt pt] (.Tuple [a, b, d] k2 pt2) pos) (tSD c W M fr (.asgP [i, j, l] ces)) := by
  refine (ps_par3 hc hN hi hj hl hij hil hjl hx hy hz ha hw).imp fun N σ H ⟨H0, Oc, Ts, ρ, ho, env, r⟩ => ?_
  simp only [ex] at r
  refine tA_step env.base env r fun vs H1 ds s1 rs env1 r1 => ?_
  obtain ⟨ρ', hq, r2⟩ := (Run.bind.mp r1).nx (nx_sets _ _ _)
  match ds, rs, hq with
  | [d1, d2, d3], rs, hq =>
    obtain ⟨v1, w1, rfl, q1, rs⟩ := rs.inv
    obtain ⟨v2, w2, rfl, q2, rs⟩ := rs.inv
    obtain ⟨v3, w3, rfl, q3, rs⟩ := rs.inv
    have := rs.inv0
    subst this
    cases hq
    refine ⟨v1, v2, v3, rfl, r2 _ H1 ?_⟩
    exact ((env1.set mi q1).set mj (by rw [ow_set mi]; exact q2)).set ml (by rw [ow_set mj, ow_set mi]; exact q3)
  | [], rs, hq => cases hq
  | [_], rs, hq => cases hq
  | [_, _], rs, hq => cases hq
  | _ :: _ :: _ :: _ :: _, rs, hq => cases hq
/-! ### lists that grow -/
theorem ps_appD {e : Expr} {ce : E} {i : Nat} {x : Str} {p apos cpos : Pos} (he : PE X e (tE c M ce)) (hN : X.N[i]? = some x) (hv : Vis X.env.scope x) (hd : (x == ("__debug__" : Str)) = false) (hcd : (x == ("__classdict__" : Str)) = false) (hM : M.contains i = true) (hb : bor M ce = false) (hs : NoStar X e)
    (hl : (apos.endLine == cpos.line) = true) : PS X (.Expr (.Call (.Attribute (.Name x p) "append" apos) [e] [] cpos) pos) (tSD c W M fr (.app i ce)) := by
  have few : ((backTo cpos (starEach [e] X.env)).all (fun x => !x.1) && (backToKw cpos (keywordEach [] X.env)).all (fun x => x.1.isSome) && decide (([e] : List Expr).length + ([] : List Keyword).length + (if ([] : List Keyword).isEmpty then 0 else 1) < 30)) = true := by
    rw [hs []]; rfl
  refine (ps_expr (pe_bm PySem.F.plainAttrs_list PySem.F.slot_list_append PySem.F.type_list_append mt_append (pe_var hN hv hd hcd) (pa_one he hs) rfl few hl (hs _) rfl) rfl).imp fun N σ H ⟨H0, Oc, Ts, ρ, ho, env, r⟩ => ?_
  simp only [ex] at r
  cases q : ρ.getD i none with
  | none => rw [q] at r; exact r.elim
  | some d0 =>
    rw [q] at r
    cases d0 with
    | lst xs =>
      obtain ⟨a, e1, rb, hm, h0, hoc⟩ := own_at ho env hM (getD_some q)
      obtain ⟨b, vs, e2, sq, hlen, rr⟩ := rb_lst rb
      cases e2
      refine ⟨_, e1, .inl ⟨rfl, vs, SqL.of sq⟩, tE_step env.base env r fun y H1 d s1 vk env1 r1 => ?_⟩
      have r2 : Run (if xs.length < LIM then R.ok (Fl.nx (setR ρ i (.lst (xs ++ [d])))) else .no) (FlOk c M fr H0 Oc Ts N) (XW c H0) := r1
      split at r2
      · rename_i hlt
        have sq1 := s1 _ _ sq
        refine ⟨a, vs, y, rfl, rfl, sq1, by rw [← rr.len, ← lim_eq]; exact hlt, ?_⟩
        refine r2 σ _ (env1.chg hM (getD_some q) e1 (fun ys z => by rw [sq1] at z; cases z) (fun o u z => by rw [sq1] at z; cases z) hoc rfl ?_)
        have hO : Ow Oc M σ a := .inr ⟨i, hM, e1⟩
        refine ⟨a, vs ++ [y], rfl, upd_same, by rw [List.length_append]; exact hlt, Rps.step (?_ : Stp (Ow Oc M σ) (Ow Oc M σ) H1 _) _ _ ((Rps.step (Stp.same s1) _ _ rr).append (Rps.cons (vk.2.1 hb) Rps.nil))⟩
        exact ⟨fun b x e n _ => by rw [upd_ne (fun q => n (by rw [q]; exact hO))]; exact e, fun b xs e => by rw [upd_ne (fun q => by rw [q, sq1] at e; cases e)]; exact e, fun b ob u e => by rw [upd_ne (fun q => by rw [q, sq1] at e; cases e)]; exact e, fun b z => .inl z⟩
      · exact r2.elim
    | _ => exact r.elim
theorem meets_extT (l : Addr) (items : Array Value) (n : Nat) (b : Addr) (items2 : Array Value) (n2 : Nat) (od : Option Addr) (osl : Array (Option Value)) (c0 : ¬(!items.isEmpty && Builtin.List.listTooLong (items.size + items2.size)) = true) (c1 : items.size ≤ sizeLine) (c2 : items.size + items2.size ≤ sizeLine + 1) :
    Meets (Builtin.«list.extend» ⟨[.ref l, .ref b], []⟩) (fun _ R s => s.heap.get? l = some { cls := .type "list", dict := none, data := .seq items n, slots := #[] } ∧ s.heap.get? b = some { cls := .type "tuple", dict := od, data := .seq items2 n2, slots := osl } ∧ R (.ok (.ret Value.none)) { s with heap := s.heap.update l (Obj.mapSeq fun x => x ++ items2), toks := s.toks }) :=
  .of_wp fun prog w A R s h => by
    obtain ⟨hp, g, d, tk, os⟩ := s
    obtain ⟨hl, hb, h⟩ := h
    have f1 := AutoSeq1.idx_int
    have f2 := AutoSeq1.sub_tuple_tuple
    have f3 := AutoSeq1.sub_list_list
    have f4 := AutoSeq1.sub_tuple_list
    have f5 := AutoSeq1.sub_list_tuple
    have hz' : (items ++ items2).size ≤ sizeLine + 1 := by rw [Array.size_append]; exact c2
    wp_walk using (wpAny_updateSeq hl rfl (hz := c1) (_hz' := hz')), AutoSeq1.wpAny_loadPart' hl, AutoSeq1.wpAny_loadPart' hb
    exact ⟨_, rfl, h⟩
theorem mt_extB : MtM X "list.extend" (fun x vs H Q => rExtend x vs H Q ∨ ∃ l b xs zs, x = .ref l ∧ vs = [.ref b] ∧ H l = some (.lst xs) ∧ SqT X.K H b zs ∧ xs.length + zs.length ≤ sizeLine ∧ Q .non (upd H l (.lst (xs ++ zs)))) := by
  intro pins s σ H x vs v us Q I rx rv h
  rcases h with h | h
  · exact mt_extend pins s σ H x vs v us Q I rx rv h
  · obtain ⟨l, b, xs, zs, rfl, rfl, hH, hB, hz, q⟩ := h
    cases rx
    obtain ⟨u, rfl, ru⟩ := rv.one
    cases ru
    obtain ⟨z, its, n, r, hl, e⟩ := I.lstM hH
    obtain ⟨its2, r2, ⟨⟨oc, od, oda, osl⟩, e2, c2, n2, d2⟩, hz2⟩ := I.tuple hB
    have hl2 := r2.length
    simp only at c2 d2
    subst c2 d2
    have hsz : its.toArray.size + its2.toArray.size ≤ sizeLine := by rw [List.size_toArray, List.size_toArray]; omega
    have hlong : ¬ (!its.toArray.isEmpty && Builtin.List.listTooLong (its.toArray.size + its2.toArray.size)) = true := by
      rw [notLongL hsz, Bool.and_false]
      exact Bool.false_ne_true
    refine call_meets PySem.F.slot_list_extend ⟨_, e, rfl⟩ PySem.F.entry_list_extend (PySem.F.args_list_extend_2 _ _) (meets_extT l its.toArray n b its2.toArray n2 od osl hlong (by rw [List.size_toArray]; omega) (by omega)) ⟨e, e2, ?_⟩
    refine ⟨.non, _, I.lset (its' := its ++ its2) hH e (by simp) (r.append r2) ?_, rfl, q⟩
    rw [List.length_append]
    omega
theorem ps_extD {e : Expr} {ce : E} {i : Nat} {x : Str} {p apos cpos : Pos} (hK : X.K = c.K) (he : PE X e (tE c M ce)) (hN : X.N[i]? = some x) (hv : Vis X.env.scope x) (hd : (x == ("__debug__" : Str)) = false) (hcd : (x == ("__classdict__" : Str)) = false) (hM : M.contains i = true) (hb : bor M ce = false) (hs : NoStar X e)
    (hl : (apos.endLine == cpos.line) = true) : PS X (.Expr (.Call (.Attribute (.Name x p) "extend" apos) [e] [] cpos) pos) (tSD c W M fr (.ext i ce)) := by
  have few : ((backTo cpos (starEach [e] X.env)).all (fun x => !x.1) && (backToKw cpos (keywordEach [] X.env)).all (fun x => x.1.isSome) && decide (([e] : List Expr).length + ([] : List Keyword).length + (if ([] : List Keyword).isEmpty then 0 else 1) < 30)) = true := by
    rw [hs []]; rfl
  refine (ps_expr (pe_bm PySem.F.plainAttrs_list PySem.F.slot_list_extend PySem.F.type_list_extend mt_extB (pe_var hN hv hd hcd) (pa_one he hs) rfl few hl (hs _) rfl) rfl).imp fun N σ H ⟨H0, Oc, Ts, ρ, ho, env, r⟩ => ?_
  simp only [ex] at r
  cases q : ρ.getD i none with
  | none => rw [q] at r; exact r.elim
  | some d0 =>
    rw [q] at r
    cases d0 with
    | lst xs =>
      obtain ⟨a, e1, rb, hm, h0, hoc⟩ := own_at ho env hM (getD_some q)
      obtain ⟨b, vs, e2, sq, hlen, rr⟩ := rb_lst rb
      cases e2
      refine ⟨_, e1, .inl ⟨rfl, vs, SqL.of sq⟩, tE_step env.base env r fun y H1 d s1 vk env1 r1 => ?_⟩
      cases d with
      | lst ys =>
        have r2 : Run (if xs.length + ys.length ≤ LIM then R.ok (Fl.nx (setR ρ i (.lst (xs ++ ys)))) else .no) (FlOk c M fr H0 Oc Ts N) (XW c H0) := r1
        split at r2
        · rename_i hlt
          have sq1 := s1 _ _ sq
          obtain ⟨b, ws, e3, sq2, hl2, rr2⟩ := rb_lst vk.rb
          subst e3
          refine .inl ⟨a, b, vs, ws, rfl, rfl, sq1, sq2, by rw [← rr.len, ← rr2.len, ← lim_eq]; exact hlt, ?_⟩
          refine r2 σ _ (env1.chg hM (getD_some q) e1 (fun ys z => by rw [sq1] at z; cases z) (fun o u z => by rw [sq1] at z; cases z) hoc rfl ?_)
          have hO : Ow Oc M σ a := .inr ⟨i, hM, e1⟩
          refine ⟨a, vs ++ ws, rfl, upd_same, by rw [List.length_append]; exact hlt, Rps.step (?_ : Stp (Ow Oc M σ) (Ow Oc M σ) H1 _) _ _ ((Rps.step (Stp.same s1) _ _ rr).append rr2)⟩
          exact ⟨fun b x e n _ => by rw [upd_ne (fun q => n (by rw [q]; exact hO))]; exact e, fun b xs e => by rw [upd_ne (fun q => by rw [q, sq1] at e; cases e)]; exact e, fun b ob u e => by rw [upd_ne (fun q => by rw [q, sq1] at e; cases e)]; exact e, fun b z => .inl z⟩
        · exact r2.elim
      | tup ys =>
        have r2 : Run (if xs.length + ys.length ≤ LIM then R.ok (Fl.nx (setR ρ i (.lst (xs ++ ys)))) else .no) (FlOk c M fr H0 Oc Ts N) (XW c H0) := r1
        split at r2
        · rename_i hlt
          have sq1 := s1 _ _ sq
          obtain ⟨b, ws, e3, sq2, hl2, rr2⟩ := rb_tup vk.rb
          subst e3
          rw [← hK] at sq2
          refine .inr ⟨a, b, vs, ws, rfl, rfl, sq1, sq2, by rw [← rr.len, ← rr2.len, ← lim_eq]; exact hlt, ?_⟩
          refine r2 σ _ (env1.chg hM (getD_some q) e1 (fun ys z => by rw [sq1] at z; cases z) (fun o u z => by rw [sq1] at z; cases z) hoc rfl ?_)
          have hO : Ow Oc M σ a := .inr ⟨i, hM, e1⟩
          refine ⟨a, vs ++ ws, rfl, upd_same, by rw [List.length_append]; exact hlt, Rps.step (?_ : Stp (Ow Oc M σ) (Ow Oc M σ) H1 _) _ _ ((Rps.step (Stp.same s1) _ _ rr).append rr2)⟩
          exact ⟨fun b x e n _ => by rw [upd_ne (fun q => n (by rw [q]; exact hO))]; exact e, fun b xs e => by rw [upd_ne (fun q => by rw [q, sq1] at e; cases e)]; exact e, fun b ob u e => by rw [upd_ne (fun q => by rw [q, sq1] at e; cases e)]; exact e, fun b z => .inl z⟩
        · exact r2.elim
      | _ => exact r1.elim
    | _ => exact r.elim
/-! ### dicts that change -/
theorem putK_eq {k : Key} {w v : V} {r : List (Key × V)} (h : k ∉ r.map (·.1)) : L2.putK ((k, w) :: r) k v = (k, v) :: r := by
  unfold L2.putK
  rw [if_pos (by simp)]
  simp only [List.map_cons, if_true]
  congr 1
  conv => rhs; rw [← List.map_id r]
  apply List.map_congr_left
  intro p hp
  have : ¬ p.1 = k := fun e => h (by rw [← e]; exact List.mem_map_of_mem hp)
  rw [if_neg this]; rfl
theorem putK_ne {a k : Key} {w v : V} {r : List (Key × V)} (h : a ≠ k) : L2.putK ((a, w) :: r) k v = (a, w) :: L2.putK r k v := by
  unfold L2.putK
  simp only [List.any_cons, decide_eq_false h, Bool.false_or, List.map_cons, if_neg h]
  split <;> rfl
theorem put_rep {K : PySem.W.Frag} {H : Hp} {O : Addr → Prop} (k : Ky) {d : D} {v : V} (rd : Rp K H O d v) : ∀ {ks : List Ky} {ds : List D} {kvs : List (Key × V)}, kvs.map (·.1) = ks.map kyV → Rps K H O ds (kvs.map (·.2)) → ks.Nodup →
    (L2.putK kvs (kyV k) v).map (·.1) = (MT.putK k d ks ds).1.map kyV ∧ Rps K H O (MT.putK k d ks ds).2 ((L2.putK kvs (kyV k) v).map (·.2)) ∧ (MT.putK k d ks ds).1.Nodup ∧ (MT.putK k d ks ds).1.length ≤ ks.length + 1 ∧ (∀ z ∈ (MT.putK k d ks ds).1, z ∈ ks ∨ z = k)
  | [], ds, kvs, e, r, _ => by
    have : kvs = [] := by simpa using e
    subst this
    have e1 : MT.putK k d [] ds = ([k], [d]) := by cases ds <;> rfl
    have e2 : L2.putK ([] : List (Key × V)) (kyV k) v = [(kyV k, v)] := rfl
    rw [e1, e2]
    exact ⟨rfl, Rps.cons rd Rps.nil, by simp, Nat.le_refl _, fun z hz => .inr (by simpa using hz)⟩
  | a :: ks, ds, kvs, e, r, nd => by
    cases kvs with
    | nil => simp at e
    | cons p q =>
      simp only [List.map_cons, List.cons.injEq] at e
      obtain ⟨e1, e2⟩ := e
      cases ds with
      | nil => have := r.len; simp at this
      | cons x ds =>
        obtain ⟨w, r', e3, r1, r2⟩ := r.inv
        simp only [List.map_cons, List.cons.injEq] at e3
        obtain ⟨e3, e4⟩ := e3
        rw [← e4] at r2
        obtain ⟨p1, p2⟩ := p
        simp only at e1 e3
        subst e1 e3
        rw [List.nodup_cons] at nd
        by_cases h : a = k
        · subst h
          have hn : kyV a ∉ q.map (·.1) := fun z => by
            rw [e2] at z
            obtain ⟨b, hb, eb⟩ := List.mem_map.mp z
            exact nd.1 (kyV_inj eb ▸ hb)
          rw [putK_eq hn]
          have e5 : MT.putK a d (a :: ks) (x :: ds) = (a :: ks, d :: ds) := by simp [MT.putK]
          rw [e5]
          exact ⟨by simp [e2], Rps.cons rd r2, List.nodup_cons.mpr nd, Nat.le_succ _, fun z hz => .inl hz⟩
        · have hne : kyV a ≠ kyV k := fun z => h (kyV_inj z)
          rw [putK_ne hne]
          obtain ⟨i1, i2, i3, i4, i5⟩ := put_rep k rd (kvs := q) e2 r2 nd.2
          have e5 : MT.putK k d (a :: ks) (x :: ds) = (a :: (MT.putK k d ks ds).1, x :: (MT.putK k d ks ds).2) := by simp [MT.putK, h]
          rw [e5]
          refine ⟨by simp [i1], Rps.cons r1 i2, List.nodup_cons.mpr ⟨fun z => ?_, i3⟩, by simp; omega, fun z hz => ?_⟩
          · rcases i5 a z with z | z
            · exact nd.1 z
            · exact h z
          · rcases List.mem_cons.mp hz with rfl | hz
            · exact .inl List.mem_cons_self
            · exact (i5 z hz).imp (List.mem_cons_of_mem _) id
theorem kyVs_inj : ∀ {a b : List Ky}, a.map kyV = b.map kyV → a = b
  | [], [], _ => rfl
  | [], _ :: _, h => by simp at h
  | _ :: _, [], h => by simp at h
  | x :: a, y :: b, h => by
    simp only [List.map_cons, List.cons.injEq] at h
    rw [kyV_inj h.1, kyVs_inj h.2]
theorem nodup_map_inj {α β : Type} {f : α → β} (hf : ∀ a b, f a = f b → a = b) : ∀ {l : List α}, l.Nodup → (l.map f).Nodup
  | [], _ => List.nodup_nil
  | a :: l, h => by
    rw [List.nodup_cons] at h
    rw [List.map_cons, List.nodup_cons]
    refine ⟨fun z => ?_, nodup_map_inj hf h.2⟩
    obtain ⟨b, hb, e⟩ := List.mem_map.mp z
    exact h.1 (by rw [← hf _ _ e]; exact hb)
theorem kys_of {K : PySem.W.Frag} {H : Hp} {O : Addr → Prop} : ∀ {ds : List D} {vs : List V} {ks : List Ky}, Rps K H O ds vs → kys ds = some ks → vs = (ks.map kyV).map kV ∧ (∀ k ∈ ks, okK k) ∧ ks.length = ds.length
  | [], vs, ks, r, h => by
    rw [r.inv0]; simp [kys] at h; subst h
    exact ⟨rfl, (fun _ z => nomatch z), rfl⟩
  | d :: ds, vs, ks, r, h => by
    obtain ⟨v, w, rfl, r1, r2⟩ := r.inv
    simp only [kys] at h
    cases hk : d.ky with
    | none => rw [hk] at h; cases h
    | some k =>
      cases hs : kys ds with
      | none => rw [hk, hs] at h; cases h
      | some l =>
        rw [hk, hs] at h
        cases h
        obtain ⟨g1, g2, g3⟩ := kys_of r2 hs
        obtain ⟨e, ok⟩ := kyD_of r1.b hk
        refine ⟨by rw [g1, e]; rfl, fun k' hk' => ?_, by simp [g3]⟩
        rcases List.mem_cons.mp hk' with z | z
        · rw [z]; exact ok
        · exact g2 k' z
theorem kyT_of {K : PySem.W.Frag} {H : Hp} {O : Addr → Prop} {d : D} {v : V} {ks : List Ky} (r : Rp K H O d v) (h : kysT d = some ks) : ∃ a, v = .ref a ∧ SqT K H a ((ks.map kyV).map kV) ∧ NoD K H a ∧ (∀ k ∈ ks, okK k) ∧ ks.length ≤ LIM := by
  cases d with
  | tup xs =>
    simp only [Rp] at r
    obtain ⟨a, vs, rfl, sq, hl, rr, nd⟩ := r
    obtain ⟨g1, g2, g3⟩ := kys_of rr h
    exact ⟨a, rfl, by rw [← g1]; exact sq, nd, g2, by rw [g3]; exact hl⟩
  | _ => cases h
theorem putT_len (k : List Ky) (ks : List (List Ky)) : (putT k ks).length ≤ ks.length + 1 := by
  unfold putT
  split
  · omega
  · simp
theorem putM_rep (k : List Ky) (b : Addr) {ks : List (List Ky)} {L : List (Addr × List Key)} (e : L.map (·.2) = ks.map (·.map kyV)) (nd : ks.Nodup) :
    (putM b (k.map kyV) L).map (·.2) = (putT k ks).map (·.map kyV) ∧ (putT k ks).Nodup ∧ (∀ l ∈ putT k ks, l ∈ ks ∨ l = k) ∧ ∀ m ∈ putM b (k.map kyV) L, m ∈ L ∨ m = (b, k.map kyV) := by
  have hm : hasM (k.map kyV) L = true ↔ k ∈ ks := by
    rw [hasM_iff, e]
    refine ⟨fun z => ?_, fun z => List.mem_map.mpr ⟨k, z, rfl⟩⟩
    obtain ⟨l, hl, el⟩ := List.mem_map.mp z
    rw [← kyVs_inj el]; exact hl
  unfold putM putT
  by_cases h : k ∈ ks
  · rw [if_pos (hm.mpr h), if_pos h]
    exact ⟨e, nd, fun l hl => .inl hl, fun m z => .inl z⟩
  · rw [if_neg (fun z => h (hm.mp z)), if_neg h]
    refine ⟨by rw [List.map_append, List.map_append, e]; rfl, ?_, fun l hl => ?_, fun m z => ?_⟩
    · rw [List.nodup_append]
      refine ⟨nd, by simp, fun a ha b' hb' => ?_⟩
      have : b' = k := by simpa using hb'
      rw [this]
      exact fun z => h (by rw [← z]; exact ha)
    · exact (List.mem_append.mp hl).imp id (fun z => by simpa using z)
    · exact (List.mem_append.mp z).imp id (fun z => by simpa using z)
theorem ps_putD {e k : Expr} {ce ck : E} {i : Nat} {x : Str} {p p2 : Pos} (hu : X.A.units + 1 < cLine) (hK : X.K = c.K) (hP : X.prog = Pw.P) (hw : X.w = Pw.w) (he : PE X e (tE c M ce)) (hk : PE X k (tE c M ck)) (hN : X.N[i]? = some x) (hv : Vis X.env.scope x) (hd : (x == ("__debug__" : Str)) = false) (hcd : (x == ("__classdict__" : Str)) = false) (hM : M.contains i = true) (hb : bor M ce = false) (hbk : bor M ck = false)
    (hs : swapsWith e (some (.Subscript (.Name x p) k p2)) pos.line X.env = pure false) : PS X (.Assign [.Subscript (.Name x p) k p2] e pos) (tSD c W M fr (.put i ck ce)) := by
  refine ((ps_dput hu (pe_var hN hv hd hcd) hk he hs).or (ps_dputT hu (pe_var hN hv hd hcd) hk he hs)).imp fun N σ H ⟨H0, Oc, Ts, ρ, ho, env, r⟩ => ?_
  simp only [ex] at r
  cases q : ρ.getD i none with
  | none => exact .inl (tE_step env.base env r fun y H1 d s1 vk env1 r1 => by rw [q] at r1; exact r1.elim)
  | some d0 =>
    cases d0 with
    | dk ks vs =>
      refine .inl (tE_step env.base env r fun y H1 d s1 vk env1 r1 => ?_)
      rw [q] at r1
      obtain ⟨a, e1, rb, hm, h0, hoc⟩ := own_at ho env1 hM (getD_some q)
      obtain ⟨b, kvs, e2, sq, em, hlen, hok, nd, rr⟩ := rb
      cases e2
      refine ⟨_, e1, tE_step env1.base env1 r1 fun z H2 dk s2 vk2 env2 r2 => ?_⟩
      have r3 : Run (match dk.ky with | some k => if ks.length < LIM then (let p := MT.putK k d ks vs; R.ok (Fl.nx (setR ρ i (.dk p.1 p.2)))) else .no | none => .no) (FlOk c M fr H0 Oc Ts N) (XW c H0) := r2
      cases hky : dk.ky with
      | none => rw [hky] at r3; exact r3.elim
      | some ky =>
        rw [hky] at r3
        have r4 : Run (if ks.length < LIM then R.ok (Fl.nx (setR ρ i (.dk (MT.putK ky d ks vs).1 (MT.putK ky d ks vs).2))) else .no) (FlOk c M fr H0 Oc Ts N) (XW c H0) := r3
        split at r4
        · rename_i hlt
          obtain ⟨ez, okz⟩ := kyD_of vk2.rb hky
          have sq2 := s2 _ _ sq
          have hkl : kvs.length = ks.length := by have := congrArg List.length em; simpa using this
          refine ⟨a, _, rfl, by rw [ez]; exact DPut.k sq2 (by rw [hkl, ← lim_eq]; exact hlt), ?_⟩
          have rd2 := Rp.step (Stp.same s2) _ _ (vk.2.1 hb)
          obtain ⟨i1, i2, i3, i4, i5⟩ := put_rep ky rd2 em (Rps.step (Stp.same s2) _ _ rr) nd
          refine r4 σ _ (env2.chg hM (getD_some q) e1 (fun ys z => by rw [sq2] at z; cases z) (fun o u z => by rw [sq2] at z; cases z) hoc rfl ?_)
          have hO : Ow Oc M σ a := .inr ⟨i, hM, e1⟩
          refine ⟨a, _, rfl, upd_same, i1, by omega, fun z hz => (i5 z hz).elim (hok z) (fun q => by rw [q]; exact okz), i3, Rps.step (?_ : Stp (Ow Oc M σ) (Ow Oc M σ) H2 _) _ _ i2⟩
          exact ⟨fun b x e n _ => by rw [upd_ne (fun q => n (by rw [q]; exact hO))]; exact e, fun b xs e => by rw [upd_ne (fun q => by rw [q, sq2] at e; cases e)]; exact e, fun b ob u e => by rw [upd_ne (fun q => by rw [q, sq2] at e; cases e)]; exact e, fun b z => .inl z⟩
        · exact r4.elim
    | dt ks vs =>
      refine .inr (tE_step env.base env r fun y H1 d s1 vk env1 r1 => ?_)
      rw [q] at r1
      obtain ⟨a, e1, rb, hm, h0, hoc⟩ := own_at ho env1 hM (getD_some q)
      obtain ⟨b, L, e2, sq, em, eds, hlen, hok, nd, rr⟩ := rb
      cases e2
      refine ⟨_, e1, tE_step env1.base env1 r1 fun z H2 dk s2 vk2 env2 r2 => ?_⟩
      have r3 : Run (match kysT dk with | some k => if ks.length < LIM ∧ d = .bl true then R.ok (Fl.nx (setR ρ i (.dt (putT k ks) ((putT k ks).map fun _ => .bl true)))) else .no | none => .no) (FlOk c M fr H0 Oc Ts N) (XW c H0) := r2
      cases hky : kysT dk with
      | none => rw [hky] at r3; exact r3.elim
      | some ky =>
        rw [hky] at r3
        dsimp only at r3
        split at r3
        · rename_i hlt
          obtain ⟨hlt, rfl⟩ := hlt
          obtain ⟨tb, etb, sqb, nod, okb, hkl⟩ := kyT_of (vk2.2.1 hbk) hky
          subst etb
          have sq2 := s2 _ _ sq
          have hLl : L.length = ks.length := by have := congrArg List.length em; simpa using this
          have ndL : (L.map (·.2)).Nodup := by
            rw [em]
            exact nodup_map_inj (fun a b h => kyVs_inj h) nd
          have rr2 : ∀ m ∈ L, SqT c.K H2 m.1 (m.2.map kV) ∧ NoD c.K H2 m.1 := fun m hm => ⟨(Stp.same (O := Ow Oc M σ) s2).sqT (rr m hm).1, (Stp.same (O := Ow Oc M σ) s2).nod (rr m hm).2⟩
          have hT : DicTO X.prog X.w a L = DicTO Pw.P Pw.w a L := by rw [hP, hw]
          refine ⟨a, tb, L, ky.map kyV, rfl, rfl, rb_bl vk.rb, by rw [hT]; exact sq2, ndL, by rw [hLl, ← lim_eq]; exact hlen, fun m hm => by rw [hK]; exact (rr2 m hm).1, by rw [hK]; exact sqb, ?_⟩
          rw [hP, hw]
          refine r3 σ _ (env2.chg hM (getD_some q) e1 (fun ys z => by rw [sq2] at z; cases z) (fun o u z => by rw [sq2] at z; cases z) hoc rfl ?_)
          have hO : Ow Oc M σ a := .inr ⟨i, hM, e1⟩
          have st : Stp (Ow Oc M σ) (Ow Oc M σ) H2 (upd H2 a (DicTO Pw.P Pw.w a (putM tb (ky.map kyV) L))) := ⟨fun b x e n _ => by rw [upd_ne (fun q => n (by rw [q]; exact hO))]; exact e, fun b xs e => by rw [upd_ne (fun q => by rw [q, sq2] at e; cases e)]; exact e, fun b ob u e => by rw [upd_ne (fun q => by rw [q, sq2] at e; cases e)]; exact e, fun b z => .inl z⟩
          obtain ⟨g1, g2, g3, g4⟩ := putM_rep ky tb em nd
          refine ⟨a, _, rfl, upd_same, g1, rfl, by (have := putT_len ky ks); omega, fun l hl => (g3 l hl).elim (hok l) (fun q => by rw [q]; exact okb), g2, fun m hm => ?_⟩
          rcases g4 m hm with z | z
          · exact ⟨st.sqT (rr2 m z).1, st.nod (rr2 m z).2⟩
          · rw [z]; exact ⟨st.sqT sqb, st.nod nod⟩
        · exact r3.elim
    | _ => exact .inl (tE_step env.base env r fun y H1 d s1 vk env1 r1 => by rw [q] at r1; exact r1.elim)
theorem del_rep {K : PySem.W.Frag} {H : Hp} {O : Addr → Prop} (k : Ky) : ∀ {ks : List Ky} {ds : List D} {kvs : List (Key × V)}, kvs.map (·.1) = ks.map kyV → Rps K H O ds (kvs.map (·.2)) → ks.Nodup →
    (L2.dropK kvs (kyV k)).map (·.1) = (delK k ks ds).1.map kyV ∧ Rps K H O (delK k ks ds).2 ((L2.dropK kvs (kyV k)).map (·.2)) ∧ (delK k ks ds).1.Nodup ∧ (delK k ks ds).1.length ≤ ks.length ∧ (∀ z ∈ (delK k ks ds).1, z ∈ ks)
  | [], ds, [], e, r, n => by
    have : ds = [] := List.eq_nil_of_length_eq_zero r.len
    subst this
    exact ⟨rfl, Rps.nil, List.nodup_nil, Nat.le_refl _, fun z hz => hz⟩
  | [], _, _ :: _, e, _, _ => by simp at e
  | _ :: _, _, [], e, _, _ => by simp at e
  | a :: ks, ds, (k', v) :: kvs, e, r, n => by
    simp only [List.map_cons, List.cons.injEq] at e
    obtain ⟨e1, e2⟩ := e
    subst e1
    cases ds with
    | nil => exact absurd r.len (by simp)
    | cons d ds =>
      obtain ⟨v', w, ev, r1, r2⟩ := r.inv
      cases ev
      obtain ⟨n1, n2⟩ := List.nodup_cons.mp n
      obtain ⟨g1, g2, g3, g4, g5⟩ := del_rep k e2 r2 n2
      by_cases h : a = k
      · subst h
        have e3 : L2.dropK ((kyV a, v) :: kvs) (kyV a) = L2.dropK kvs (kyV a) := by simp [L2.dropK]
        have e4 : delK a (a :: ks) (d :: ds) = delK a ks ds := by simp [delK]
        rw [e3, e4]
        exact ⟨g1, g2, g3, Nat.le_succ_of_le g4, fun z hz => List.mem_cons_of_mem _ (g5 z hz)⟩
      · have hne : kyV a ≠ kyV k := fun z => h (kyV_inj z)
        have e3 : L2.dropK ((kyV a, v) :: kvs) (kyV k) = (kyV a, v) :: L2.dropK kvs (kyV k) := by simp [L2.dropK, hne]
        have e4 : delK k (a :: ks) (d :: ds) = (a :: (delK k ks ds).1, d :: (delK k ks ds).2) := by simp [delK, h]
        rw [e3, e4]
        refine ⟨by simp [g1], Rps.cons r1 g2, List.nodup_cons.mpr ⟨fun z => n1 (g5 a z), g3⟩, by simp; exact g4, fun z hz => ?_⟩
        rcases List.mem_cons.mp hz with rfl | hz
        · exact List.mem_cons_self
        · exact List.mem_cons_of_mem _ (g5 z hz)
theorem ps_popD {k : Expr} {ck : E} {i : Nat} {x : Str} {p apos cpos p3 : Pos} {kd : Nat} (hk : PE X k (tE c M ck)) (hN : X.N[i]? = some x) (hv : Vis X.env.scope x) (hd : (x == ("__debug__" : Str)) = false) (hcd : (x == ("__classdict__" : Str)) = false) (hM : M.contains i = true) (hs : NoStar X k)
    (hl : (apos.endLine == cpos.line) = true) : PS X (.Expr (.Call (.Attribute (.Name x p) "pop" apos) [k, .Constant .none kd p3] [] cpos) pos) (tSD c W M fr (.pop i ck)) := by
  have hn : PE X (.Constant .none kd p3) (tC .non) := pe_non
  have sx : NoStar X (.Constant .none kd p3) := fun r => rfl
  have m2 : M2 X (.Name x p) "pop" apos k (.Constant .none kd p3) cpos := ⟨rfl, by rw [trees_of2 hs sx]; rfl, hl, trees_of2 hs sx cpos⟩
  refine (ps_expr (pe_dpop2 (pe_var hN hv hd hcd) hk hn m2) rfl).imp fun N σ H ⟨H0, Oc, Ts, ρ, ho, env, r⟩ => ?_
  simp only [ex] at r
  cases q : ρ.getD i none with
  | none => rw [q] at r; exact r.elim
  | some d0 =>
    rw [q] at r
    cases d0 with
    | dk ks vs =>
      obtain ⟨a, e1, rb, hm, h0, hoc⟩ := own_at ho env hM (getD_some q)
      obtain ⟨b, kvs, e2, sq, em, hlen, hok, nd, rr⟩ := rb
      cases e2
      refine ⟨_, e1, a, rfl, .inl ⟨kvs, .inl sq⟩, tE_step env.base env r fun z H1 dk s1 vk env1 r1 => ?_⟩
      have r3 : Run (match dk.ky with | some k => R.ok (Fl.nx (setR ρ i (.dk (delK k ks vs).1 (delK k ks vs).2))) | none => .no) (FlOk c M fr H0 Oc Ts N) (XW c H0) := r1
      cases hky : dk.ky with
      | none => rw [hky] at r3; exact r3.elim
      | some ky =>
        rw [hky] at r3
        obtain ⟨ez, okz⟩ := kyD_of vk.rb hky
        have sq1 := s1 _ _ sq
        obtain ⟨g1, g2, g3, g4, g5⟩ := del_rep ky em (Rps.step (Stp.same s1) _ _ rr) nd
        have hO : Ow Oc M σ a := .inr ⟨i, hM, e1⟩
        have fin : EnvOk c.K H0 Oc M Ts σ (upd H1 a (.dK (L2.dropK kvs (kyV ky)))) (setR ρ i (.dk (delK ky ks vs).1 (delK ky ks vs).2)) := by
          refine env1.chg hM (getD_some q) e1 (fun ys z => by rw [sq1] at z; cases z) (fun o u z => by rw [sq1] at z; cases z) hoc rfl ?_
          refine ⟨a, _, rfl, upd_same, g1, Nat.le_trans g4 hlen, fun z hz => hok z (g5 z hz), g3, Rps.step (?_ : Stp (Ow Oc M σ) (Ow Oc M σ) H1 _) _ _ g2⟩
          exact ⟨fun b x e n _ => by rw [upd_ne (fun q => n (by rw [q]; exact hO))]; exact e, fun b xs e => by rw [upd_ne (fun q => by rw [q, sq1] at e; cases e)]; exact e, fun b ob u e => by rw [upd_ne (fun q => by rw [q, sq1] at e; cases e)]; exact e, fun b z => .inl z⟩
        refine ⟨kvs, kyV ky, sq1, ez, fun v hv => r3 σ _ fin, fun hv => ?_⟩
        have same : upd H1 a (.dK (L2.dropK kvs (kyV ky))) = H1 := by
          have e : L2.dropK kvs (kyV ky) = kvs := by
            unfold L2.dropK
            rw [List.filter_eq_self]
            intro kv hkv
            have : kv.1 ≠ kyV ky := fun z => by
              have hval : valV kvs (kyV ky) ≠ none := by
                unfold valV
                intro w
                rw [Option.map_eq_none_iff, List.find?_eq_none] at w
                exact w kv hkv (by simp [z])
              exact hval hv
            simp [this]
          rw [e]
          funext b
          by_cases hb : b = a
          · rw [hb, upd_same, sq1]
          · rw [upd_ne hb]
        rw [same] at fin
        exact r3 σ _ fin
    | _ => exact r.elim
end
end MT
end
section
set_option Elab.async false
set_option linter.all false
set_option maxRecDepth 100000
set_option maxHeartbeats 4000000
/-! MtU: sorted, dict, by data. -/
namespace MT
open PySem PySem.Spec L2
/-! ### sorting texts -/
theorem ltC (a b : List Nat) : ltCps a b = ltS a b := by
  induction a generalizing b with
  | nil => cases b <;> rfl
  | cons x r ih =>
    cases b with
    | nil => rfl
    | cons y q =>
      simp only [ltCps, ltS, ih]
      by_cases h : x < y
      · simp [h]
      · by_cases h2 : x = y
        · simp [h2]
        · simp [h, h2]
def leS (a b : List Nat) : Prop := ltS b a = false
theorem leS_iff (a b : List Nat) : leS a b ↔ a ≤ b := by
  unfold leS
  rw [← lt_iff, decide_eq_false_iff_not]
  exact List.not_lt
theorem leS_trans {a b c : List Nat} (h : leS a b) (h' : leS b c) : leS a c := (leS_iff _ _).mpr (List.le_trans ((leS_iff _ _).mp h) ((leS_iff _ _).mp h'))
theorem leS_anti {a b : List Nat} (h : leS a b) (h' : leS b a) : a = b := List.le_antisymm ((leS_iff _ _).mp h) ((leS_iff _ _).mp h')
theorem leS_of {a b : List Nat} (h : ltS a b = true) : leS a b := by
  rcases List.le_total a b with z | z
  · exact (leS_iff _ _).mpr z
  · have := (leS_iff _ _).mpr z
    unfold leS at this
    rw [h] at this; cases this
theorem insS_perm (x : List Nat) : ∀ l : List (List Nat), (insS x l).Perm (x :: l)
  | [] => .refl _
  | y :: r => by
    unfold insS
    split
    · exact (List.Perm.cons y (insS_perm x r)).trans (List.Perm.swap x y r)
    · exact .refl _
theorem sortS_perm : ∀ l : List (List Nat), (sortS l).Perm l
  | [] => .refl _
  | x :: r => (insS_perm x _).trans (List.Perm.cons x (sortS_perm r))
theorem insS_pw (x : List Nat) : ∀ l : List (List Nat), l.Pairwise leS → (insS x l).Pairwise leS
  | [], _ => by simp [insS]
  | y :: r, h => by
    obtain ⟨h1, h2⟩ := List.pairwise_cons.mp h
    unfold insS
    split
    · rename_i hl
      refine List.pairwise_cons.mpr ⟨fun z hz => ?_, insS_pw x r h2⟩
      rcases List.mem_cons.mp ((insS_perm x r).mem_iff.mp hz) with rfl | hz
      · exact leS_of hl
      · exact h1 z hz
    · rename_i hl
      have hxy : leS x y := by simpa [leS] using hl
      refine List.pairwise_cons.mpr ⟨fun z hz => ?_, h⟩
      rcases List.mem_cons.mp hz with rfl | hz
      · exact hxy
      · exact leS_trans hxy (h1 z hz)
theorem sortS_pw : ∀ l : List (List Nat), (sortS l).Pairwise leS
  | [] => .nil
  | x :: r => insS_pw x _ (sortS_pw r)
theorem rising_pw : ∀ (r : List Str) (x : Str), PyProof.Rows.risingS x r = true → ((x :: r).map fun z => z.cps.toList).Pairwise leS
  | [], x, _ => by simp
  | y :: r, x, h => by
    simp only [PyProof.Rows.risingS, Bool.and_eq_true, Bool.not_eq_true'] at h
    have ih := rising_pw r y h.2
    have hxy : leS x.cps.toList y.cps.toList := by unfold leS; rw [← ltC]; exact h.1
    rw [List.map_cons]
    refine List.pairwise_cons.mpr ⟨fun z hz => ?_, ih⟩
    rw [List.map_cons] at hz
    rcases List.mem_cons.mp hz with rfl | hz
    · exact hxy
    · exact leS_trans hxy ((List.pairwise_cons.mp ih).1 z hz)
theorem sorted_is {ys : List Str} {ss : List (List Nat)} (p : ys.Perm (ss.map toS)) (h : PyProof.Rows.sortedS ys = true) : ys = (sortS ss).map toS := by
  have pw : (ys.map fun z => z.cps.toList).Pairwise leS := by
    cases ys with
    | nil => exact .nil
    | cons x r => exact rising_pw r x h
  have p2 : (ys.map fun z => z.cps.toList).Perm (sortS ss) := by
    refine List.Perm.trans ?_ (sortS_perm ss).symm
    have := p.map fun z : Str => z.cps.toList
    rwa [List.map_map, show ((fun z : Str => z.cps.toList) ∘ toS) = id from rfl, List.map_id] at this
  have e := List.Perm.eq_of_pairwise (fun a b _ _ => leS_anti) pw (sortS_pw ss) p2
  rw [← e, List.map_map]
  have : ∀ l : List Str, l = l.map (toS ∘ fun z => z.cps.toList) := fun l => by
    induction l with
    | nil => rfl
    | cons a r ih => rw [List.map_cons, ← ih]; rfl
  exact this ys
section
variable [Pw] {X : Cx}
theorem nw_strs {H : Hp} {O : Addr → Prop} {p : Addr} {ss : List (List Nat)} (al : AllocO O H) (hp : H p = none) (h64 : ss.length < 64) (ok : ∀ s ∈ ss, okS s) : Nw X.K H (upd H p (.lst (((sortS ss).map toS).map V.str))) O (.lst ((sortS ss).map .str)) (.ref p) := by
  have hm : ∀ s ∈ sortS ss, okS s := fun s hs => ok s ((sortS_perm ss).mem_iff.mp hs)
  refine nw_lst al hp ?_ (Rps.ofStrs hm)
  rw [List.length_map, (sortS_perm ss).length_eq]
  exact Nat.le_trans (Nat.le_of_lt h64) (by decide)
theorem keys_str : ∀ {ks : List Ky} {ss : List (List Nat)}, strsO (ks.map kyD) = some ss → ks = ss.map .s
  | [], ss, h => by simp [strsO] at h; subst h; rfl
  | .i n :: r, ss, h => by simp [strsO, kyD] at h
  | .s x :: r, ss, h => by
    simp only [List.map_cons, kyD, strsO, Option.map_eq_some_iff] at h
    obtain ⟨l, h1, rfl⟩ := h
    rw [keys_str h1]; rfl
theorem cl_sorted0 (hc : X.calm = true) : CallR X (.builtin "sorted") (rDs X.K srt0) := by
  intro pins s σ H xs us Q I r h
  obtain ⟨O, d1, x, d, al, rfl, r1, e, q⟩ := h
  cases d1 with
  | dk ks ds =>
    simp only [srt0] at e
    cases hs : strsO (ks.map kyD) with
    | none => rw [hs] at e; cases e
    | some ss =>
      rw [hs] at e
      simp only [ofO, ok_bind] at e
      split at e
      · rename_i h64
        cases e
        obtain ⟨a, kvs, rfl, hd, hk, _, hok, _, _⟩ := r1
        have hks := keys_str hs
        subst hks
        have oks : ∀ t ∈ ss, okS t := fun t ht => hok (.s t) (List.mem_map.mpr ⟨t, ht, rfl⟩)
        refine call_sortedD hc pins s σ H _ us Q I r ⟨a, kvs, ss.map toS, rfl, .inl hd, ?_, by rw [List.length_map]; exact h64, fun ys p hp hs hn => ?_⟩
        · rw [hk, List.map_map, List.map_map]; rfl
        · rw [sorted_is hp hs]
          exact q _ _ (Same.new hn) (nw_strs al hn h64 oks)
      · cases e
  | lst ys =>
    simp only [srt0] at e
    cases hs : strsO ys with
    | none => rw [hs] at e; cases e
    | some ss =>
      rw [hs] at e
      simp only [ofO, ok_bind] at e
      split at e
      · rename_i h64
        cases e
        obtain ⟨a, vs, rfl, sq, hl, rr⟩ := rb_lst r1
        obtain ⟨e1, _, oks⟩ := rr.strs hs
        subst e1
        refine cr_sortedS pins s σ H _ us Q I r ⟨a, ss.map toS, rfl, SqL.of sq, by rw [List.length_map]; exact h64, fun zs p hp hs hn => ?_⟩
        rw [sorted_is hp hs]
        exact q _ _ (Same.new hn) (nw_strs al hn h64 oks)
      · cases e
  | _ => cases e
/-! ### dict of a tuple of pairs -/
theorem NoD.at {pins : List (Addr × Obj)} {σ : L2.St} {H : Hp} {s : Shared} {a : Addr} (I : Inv X pins σ H s) (h : NoD X.K H a) : ∃ o, s.heap.get? a = some o ∧ o.dict = none := by
  rcases h with ⟨o, u, h, d⟩ | ⟨o, h, d⟩
  · exact ⟨o, (show ObjOk X.prog X.w H s.heap a (.frz o u) from I.hok a _ h).1, d⟩
  · exact ⟨o, I.kIn a o h, d⟩
theorem pairsV {pins : List (Addr × Obj)} {σ : L2.St} {H : Hp} {s : Shared} (I : Inv X pins σ H s) : ∀ {ps : List Addr} {kvs : List (Key × V)}, Paired (fun p kv => SqT X.K H p [kV kv.1, kv.2]) ps kvs →
    ∃ (prs : List (Key × Value)) (pv : List (Value × Value)), KV kvs prs ∧ prs.length = ps.length ∧ pv.length = ps.length ∧
      ∀ (j : Nat) (k v : Value), pv[j]? = some (k, v) → ∃ b key, ps[j]? = some b ∧ PyProof.Rows.IsTup s.heap b #[k, v] ∧ prs[j]? = some (key, v) ∧ keyIs key k = true
  | _, _, .nil => ⟨[], [], .nil, rfl, rfl, fun j k v e => by simp at e⟩
  | _, _, .cons (a := p) (b := kv) h t => by
    obtain ⟨prs, pv, g1, g2, g3, g4⟩ := pairsV I t
    obtain ⟨its, rv, ht, _⟩ := I.tuple h
    obtain ⟨u, y, rfl, ru, ry⟩ := vals2 rv
    refine ⟨(kv.1, y) :: prs, (u, y) :: pv, .cons ⟨rfl, ry⟩ g1, by simp [g2], by simp [g3], fun j k v e => ?_⟩
    cases j with
    | zero =>
      simp only [List.getElem?_cons_zero, Option.some.injEq, Prod.mk.injEq] at e
      obtain ⟨rfl, rfl⟩ := e
      exact ⟨p, kv.1, rfl, ht, rfl, kV_is (P := X.prog) (w := X.w) ru⟩
    | succ j =>
      obtain ⟨b, key, z1, z2, z3, z4⟩ := g4 j k v (by simpa using e)
      exact ⟨b, key, by simpa using z1, z2, by simpa using z3, z4⟩
theorem call_dictT (hc : X.calm = true) : CallR X (.type "dict") (fun xs H Q => ∃ (a : Addr) (ps : List Addr) (kvs : List (Key × V)), xs = [.ref a] ∧ SqT X.K H a (ps.map V.ref) ∧ NoD X.K H a ∧ Paired (fun p kv => SqT X.K H p [kV kv.1, kv.2]) ps kvs ∧
    ∀ p, H p = none → Q (.ref p) (upd H p (.dK (mergeK [] kvs)))) := by
  intro pins s σ H xs us Q I r w
  obtain ⟨a, ps, kvs, rfl, sq, nd, hp, w⟩ := w
  obtain ⟨u, rfl, ru⟩ := vals1 r
  cases ru
  obtain ⟨its, rv, ⟨o, ho, ho2, n, ho3⟩, hz⟩ := I.tuple sq
  have ei := refs_at rv
  subst ei
  rw [List.length_map] at hz
  obtain ⟨o', ho', hd⟩ := nd.at I
  rw [ho] at ho'; cases ho'
  obtain ⟨prs, pv, g1, g2, g3, g4⟩ := pairsV I hp
  refine PySem.call_dict_pairs (knd := mixKind X.prog X.w) (kvs := prs) (PairArg.tuple a (ps.map Value.ref).toArray (fun j => (ps[j]?).getD 0) pv) (I.ok.hd hc) ⟨⟨o, n, ho, ho2, hd, ho3⟩, by simp [g3], fun j k v e => ?_⟩ ⟨by rw [g2, g3], fun j k v e => ?_⟩ (by rw [g3]; exact hz) fun h' tk hd' k => ?_
  · obtain ⟨b, key, z1, z2, _, _⟩ := g4 j k v e
    refine ⟨by simp [z1], .inl ?_⟩
    show s.heap.IsTuple ((ps[j]?).getD 0) #[k, v]
    rw [z1]
    exact z2
  · obtain ⟨b, key, _, _, z3, z4⟩ := g4 j k v e
    exact ⟨key, z3, z4⟩
  · have hm : (s.heap.objs.size == sysModules) = false := beq_eq_false_iff_ne.mpr (Nat.ne_of_gt I.big)
    have hlen : (mergeK [] kvs).length ≤ sizeLine := by
      have z := length_mergeK kvs []
      rw [List.length_nil, Nat.zero_add, g1.length, g2] at z
      exact Nat.le_trans z hz
    exact ⟨.ref s.heap.objs.size, upd H s.heap.objs.size (.dK (mergeK [] kvs)), I.laid (t' := tk) (fun b o e => k b o (fun z => nomatch z) e) (Nat.le_refl _) (show ObjOk X.prog X.w _ _ _ (.dK (mergeK [] kvs)) from ⟨hlen, hm, merged [] prs, KV.merge g1 .nil, hd'⟩), rfl, w _ (I.hok.fresh (Nat.le_refl _))⟩
/-- the pairs of the data -/
theorem dict_pairs {H : Hp} {O : Addr → Prop} : ∀ {xs : List D} {vs : List V} {l : List (Ky × D)}, Rps X.K H O xs vs → dictO xs = some l →
    ∃ (ps : List Addr) (kvs : List (Key × V)), vs = ps.map V.ref ∧ Paired (fun p kv => SqT X.K H p [kV kv.1, kv.2]) ps kvs ∧ Paired (fun (q : Ky × D) kv => kv.1 = kyV q.1 ∧ okK q.1 ∧ Rp X.K H O q.2 kv.2) l kvs
  | [], vs, l, r, h => by
    rw [r.inv0]; simp [dictO] at h; subst h
    exact ⟨[], [], rfl, .nil, .nil⟩
  | d :: xs, vs, l, r, h => by
    obtain ⟨v, w, rfl, r1, r2⟩ := r.inv
    match d, h, r1 with
    | .tup [k, x], h, r1 =>
      simp only [dictO] at h
      cases hk : k.ky with
      | none => rw [hk] at h; cases h
      | some ky =>
        cases hx : dictO xs with
        | none => rw [hk, hx] at h; cases h
        | some l' =>
          rw [hk, hx] at h
          cases h
          obtain ⟨ps, kvs, rfl, h1, h2⟩ := dict_pairs r2 hx
          obtain ⟨a, vs, rfl, sq, _, rr⟩ := rb_tup r1.b
          obtain ⟨v1, w1, rfl, q1, rr⟩ := rr.inv
          obtain ⟨v2, w2, rfl, q2, rr⟩ := rr.inv
          have := rr.inv0
          subst this
          have hv : v1 = kV (kyV ky) ∧ okK ky := by
            cases k with
            | int i =>
              simp only [D.ky, Option.some.injEq] at hk
              subst hk
              exact ⟨rb_int q1.b, trivial⟩
            | str t =>
              simp only [D.ky, Option.some.injEq] at hk
              subst hk
              exact ⟨(rb_str q1.b).1, (rb_str q1.b).2⟩
            | _ => cases hk
          obtain ⟨rfl, hok⟩ := hv
          exact ⟨a :: ps, (kyV ky, v2) :: kvs, rfl, .cons sq h1, .cons ⟨rfl, hok, q2⟩ h2⟩
theorem merge_rep {K : PySem.W.Frag} {H : Hp} {O : Addr → Prop} : ∀ {l : List (Ky × D)} {kvs : List (Key × V)}, Paired (fun (q : Ky × D) (kv : Key × V) => kv.1 = kyV q.1 ∧ okK q.1 ∧ Rp K H O q.2 kv.2) l kvs →
    ∀ {ks : List Ky} {ds : List D} {acc : List (Key × V)}, acc.map (·.1) = ks.map kyV → Rps K H O ds (acc.map (·.2)) → ks.Nodup → (∀ z ∈ ks, okK z) →
    (mergeK acc kvs).map (·.1) = (mkD l ks ds).1.map kyV ∧ Rps K H O (mkD l ks ds).2 ((mergeK acc kvs).map (·.2)) ∧ (mkD l ks ds).1.Nodup ∧ (mkD l ks ds).1.length ≤ ks.length + l.length ∧ (∀ z ∈ (mkD l ks ds).1, okK z)
  | _, _, .nil, ks, ds, acc, h1, h2, h3, h4 => ⟨h1, h2, h3, Nat.le_refl _, h4⟩
  | (k, d) :: l, (k', v) :: kvs, .cons h t, ks, ds, acc, h1, h2, h3, h4 => by
    obtain ⟨e, hk, rd⟩ := h
    cases (show k' = kyV k from e)
    obtain ⟨g1, g2, g3, g4, g5⟩ := put_rep k rd h1 h2 h3
    obtain ⟨z1, z2, z3, z4, z5⟩ := merge_rep t g1 g2 g3 (fun z hz => by
      rcases g5 z hz with q | q
      · exact h4 z q
      · rw [q]; exact hk)
    refine ⟨z1, z2, z3, Nat.le_trans z4 ?_, z5⟩
    rw [List.length_cons]
    omega
theorem dict_len : ∀ {xs : List D} {l : List (Ky × D)}, dictO xs = some l → l.length = xs.length
  | [], l, h => by simp [dictO] at h; subst h; rfl
  | d :: xs, l, h => by
    match d, h with
    | .tup [k, x], h =>
      simp only [dictO] at h
      cases hk : k.ky with
      | none => rw [hk] at h; cases h
      | some ky =>
        cases hx : dictO xs with
        | none => rw [hk, hx] at h; cases h
        | some l' =>
          rw [hk, hx] at h
          cases h
          simp [dict_len hx]
theorem cl_dict (hc : X.calm = true) : CallR X (.type "dict") (rDs X.K (bltD .dict)) := by
  intro pins s σ H xs us Q I r h
  obtain ⟨O, d1, x, d, al, rfl, r1, e, q⟩ := h
  cases d1 with
  | tup ys =>
    simp only [bltD] at e
    cases hs : dictO ys with
    | none => rw [hs] at e; cases e
    | some l =>
      rw [hs] at e
      cases e
      obtain ⟨a, vs, rfl, sq, hl, rr, nd⟩ := rb_tupN r1
      obtain ⟨ps, kvs, rfl, h1, h2⟩ := dict_pairs rr hs
      obtain ⟨g1, g2, g3, g4, g5⟩ := merge_rep h2 (ks := []) (ds := []) (acc := []) rfl Rps.nil List.nodup_nil (fun z hz => nomatch hz)
      refine call_dictT hc pins s σ H _ us Q I r ⟨a, ps, kvs, rfl, sq, nd, h1, fun p hp => q _ _ (Same.new hp) ?_⟩
      have hlen : (mkD l [] []).1.length ≤ LIM := Nat.le_trans g4 (by rw [dict_len hs]; simpa using hl)
      refine ⟨?_, fun _ => ⟨p, rfl, hp, p, _, rfl, upd_same, g1, hlen, g5, g3, Rps.step (Stp.new (Same.new hp) hp) _ _ g2⟩⟩
      simp only [Rp]
      exact ⟨p, _, rfl, fun z => al p z hp, upd_same, g1, hlen, g5, g3, Rps.step (Stp.same (Same.new hp)) _ _ g2⟩
  | _ => cases e
end
end MT
end
section
set_option Elab.async false
set_option linter.all false
set_option maxRecDepth 100000
set_option maxHeartbeats 4000000
/-! MtN: loops, by data. -/
namespace MT
open PySem PySem.Spec L2
variable [Pw]
section
variable {K : PySem.W.Frag} {H0 H H1 : Hp} {Oc : Addr → Prop} {M : List Nat} {Ts Ts' : List (D × V)} {σ : L2.St} {ρ : Rho}
theorem EnvOk.tmps (env : EnvOk K H0 Oc M Ts σ H ρ) (h : ∀ p ∈ Ts', Rp K H (Ow Oc M σ) p.1 p.2) : EnvOk K H0 Oc M Ts' σ H ρ := ⟨env.len, env.base, env.oc, env.val, env.own, env.dist, h, env.tabs⟩
end
section
variable {c : Cn} {M : List Nat} {X : Cx} {pos : Pos} {W : Nat} {fr : Bool}
theorem nx_bindT (tg : Tg) (d : D) (ρ : Rho) : NX (bindT tg d ρ) := by
  unfold bindT
  cases tg with
  | one i => exact NX.ok _
  | tup is => cases d <;> first | exact nx_sets _ _ _ | exact NX.no
theorem ps_forD {te it : Expr} {body : List Stmt} {ctg : Tg} {cit : Ir} {cb : List Sm} (hp : PassesOwn (model X.prog X.w) X.A X.env X.xe) (hc : X.calm = true) (hi : PI X te it (tI c M cit)) (hg : PG X te (gT c M ctg)) (hb : PSs X body (tSsD c W M fr cb))
    (hti : okTI ctg cit = true) (hbo : borI M cit = false) (hs : ∀ x, foldedSetIterable it X.env x = pure x) : PS X (.For te it body [] pos) (tSD c W M fr (.for_ ctg cit cb)) := by
  refine (ps_for hp hc hi hg hb hs).imp fun N σ H ⟨H0, Oc, Ts, ρ, ho, env, r⟩ => ?_
  simp only [ex] at r
  refine ⟨H0, Oc, Ts, ρ, env, (Run.bind.mp r).mono (fun ds hd J src H1 s1 wd hsrc hrp hlen => ?_) fun _ z => XW.mono env.base z⟩
  have env1 := env.same s1
  refine for_it wd.walk (fun i σ' H' => ∃ ρ', EnvOk c.K H0 Oc M (src ++ Ts) σ' H' ρ' ∧ Run (forF (exs c.F W M cb) ctg (ds.drop i) ρ') (FlOk c M fr H0 Oc Ts N) (XW c H0)) ?_ ?_ ?_ ?_
  · refine ⟨ρ, env1.tmps fun p hp => ?_, hd⟩
    rcases List.mem_append.mp hp with hp | hp
    · exact hrp hbo p hp
    · exact env1.tmp p hp
  · rintro i σ' H' _ ⟨ρ', env', _⟩
    exact ⟨_, fun p hp => (env'.tmp p (List.mem_append_left _ hp)).b⟩
  · rintro i x σ' H2 H3 hi' ⟨ρ', env', run⟩ y
    obtain ⟨s3, d, hd3, rx⟩ := y _ env'.alloc fun p hp => (env'.tmp p (List.mem_append_left _ hp)).b
    rw [drop_cons' hd3] at run
    unfold forF at run
    obtain ⟨ρ1, eb, run⟩ := (Run.bind.mp run).nx (nx_bindT _ _ _)
    refine ⟨H0, Oc, src ++ Ts, ρ', d, ρ1, env'.same s3, rg_of hti rx, eb, fun σ2 env2 _ _ => ?_⟩
    refine ⟨H0, Oc, src ++ Ts, ρ1, ho, env2, (Run.bind.mp run).mono (fun f hf => ?_) fun _ z => z⟩
    have drp : ∀ {σ'' : L2.St} {H'' : Hp} {ρ'' : Rho}, EnvOk c.K H0 Oc M (src ++ Ts) σ'' H'' ρ'' → EnvOk c.K H0 Oc M Ts σ'' H'' ρ'' := fun {_ _ _} e => e.tmps fun p hp => e.tmp p (List.mem_append_right _ hp)
    cases f with
    | nx ρ2 => exact fun σ3 H4 env3 => ⟨ρ2, env3, hf⟩
    | ct ρ2 => exact fun σ3 H4 env3 => ⟨ρ2, env3, hf⟩
    | bk ρ2 => exact fun σ3 H4 env3 => hf σ3 H4 (drp env3)
    | rt d => exact hf
  · rintro σ' H' ⟨ρ', env', run⟩
    rw [List.drop_length] at run
    exact run σ' H' (env'.tmps fun p hp => env'.tmp p (List.mem_append_right _ hp))
theorem ps_whlD {t : Expr} {body : List Stmt} {ct : E} {cb : List Sm} (hp : PassesOwn (model X.prog X.w) X.A X.env X.xe) (ht : PT X t (tQ c M ct)) (hb : PSs X body (tSsD c W M fr cb)) : PS X (.While t body [] pos) (tSD c W M fr (.whl ct cb)) := by
  refine (ps_while hp ht hb).imp fun N σ H ⟨H0, Oc, Ts, ρ, ho, env, r⟩ => ?_
  simp only [ex] at r
  refine ⟨fun m σ' H' => ∃ ρ', EnvOk c.K H0 Oc M Ts σ' H' ρ' ∧ Run (whlF (tst c.F ct) (exs c.F W M cb) m ρ') (FlOk c M fr H0 Oc Ts N) (XW c H0), ⟨W, ρ, env, r⟩, ?_⟩
  rintro m σ' H' ⟨ρ', env', run⟩
  cases m with
  | zero => exact run.elim
  | succ n =>
    unfold whlF at run
    refine tQ_step env'.base env' run fun b H1 s1 env1 r1 => ?_
    cases b with
    | false => exact iteF (r1 σ' H1 env1)
    | true =>
      refine iteT ⟨_, fun σ2 H2 h => ⟨n, Nat.lt_succ_self n, h⟩, H0, Oc, Ts, ρ', ho, env1, (Run.bind.mp r1).mono (fun f hf => ?_) fun _ z => z⟩
      cases f with
      | nx ρ2 => exact fun σ3 H4 env3 => ⟨ρ2, env3, hf⟩
      | ct ρ2 => exact fun σ3 H4 env3 => ⟨ρ2, env3, hf⟩
      | bk ρ2 => exact hf
      | rt d => exact hf
theorem Rps.dropLast {K : PySem.W.Frag} {H : Hp} {O : Addr → Prop} {ds : List D} {vs : List V} (r : Rps K H O ds vs) : Rps K H O ds.dropLast vs.dropLast := by
  rw [List.dropLast_eq_take, List.dropLast_eq_take, ← r.len]
  exact r.take _
theorem ps_forPD {te : Expr} {body : List Stmt} {ctg : Tg} {cb : List Sm} {i : Nat} {x : Str} {p apos cpos : Pos} (hK : X.K = c.K) (hp : PassesOwn (model X.prog X.w) X.A X.env X.xe) (hc : X.calm = true) (hg : PG X te (gT c M ctg)) (hb : PSs X body (tSsD c W M fr cb))
    (hN : X.N[i]? = some x) (hv : Vis X.env.scope x) (hd : (x == ("__debug__" : Str)) = false) (hcd : (x == ("__classdict__" : Str)) = false) (hM : M.contains i = true) (hl : (apos.endLine == cpos.line) = true) :
    PS X (.For te (.Call (.Attribute (.Name x p) "pop" apos) [] [] cpos) body [] pos) (tSD c W M fr (.forP ctg i cb)) := by
  have he := pe_bm0 (cpos := cpos) PySem.F.plainAttrs_list PySem.F.slot_list_pop PySem.F.type_list_pop mt_pop (pe_var (pos := p) hN hv hd hcd) rfl hl
  refine (ps_for hp hc (pi_tup he) hg hb (fun _ => rfl)).imp fun N σ H ⟨H0, Oc, Ts, ρ, ho, env, r⟩ => ?_
  simp only [ex] at r
  cases q : ρ.getD i none with
  | none => rw [q] at r; exact r.elim
  | some d0 =>
    rw [q] at r
    cases d0 with
    | lst xs =>
      dsimp only at r
      cases hlast : xs.getLast? with
      | none => rw [hlast] at r; exact r.elim
      | some dl =>
        rw [hlast] at r
        cases dl with
        | tup ds =>
          dsimp only at r
          obtain ⟨a, e1, rb, hm, h0, hoc⟩ := own_at ho env hM (getD_some q)
          obtain ⟨b, vs, e2, sq, hlen, rr⟩ := rb_lst rb
          cases e2
          have hx : xs[xs.length - 1]? = some (.tup ds) := by rw [← List.getLast?_eq_getElem?]; exact hlast
          obtain ⟨y, hy, ry⟩ := rr.get hx
          rw [rr.len] at hy
          have hO : Ow Oc M σ a := .inr ⟨i, hM, e1⟩
          have st : Stp (Ow Oc M σ) (Ow Oc M σ) H (upd H a (.lst vs.dropLast)) := ⟨fun b x e n _ => by rw [upd_ne (fun q => n (by rw [q]; exact hO))]; exact e, fun b xs e => by rw [upd_ne (fun q => by rw [q, sq] at e; cases e)]; exact e, fun b ob u e => by rw [upd_ne (fun q => by rw [q, sq] at e; cases e)]; exact e, fun b z => .inl z⟩
          have env1 : EnvOk c.K H0 Oc M Ts σ (upd H a (.lst vs.dropLast)) (setR ρ i (.lst xs.dropLast)) :=
            env.chg hM (getD_some q) e1 (fun ys z => by rw [sq] at z; cases z) (fun o u z => by rw [sq] at z; cases z) hoc rfl ⟨a, vs.dropLast, rfl, upd_same, by rw [List.length_dropLast]; omega, Rps.step st _ _ rr.dropLast⟩
          have ry1 : Rp c.K (upd H a (.lst vs.dropLast)) (Ow Oc M σ) (.tup ds) y := Rp.step st _ _ ry
          obtain ⟨tb, ws, et, sqt, hlt, rrt⟩ := rb_tup ry1.b
          subst et
          refine ⟨_, e1, .inl ⟨rfl, vs, SqL.of sq⟩, a, vs, _, rfl, rfl, sq, hy, tb, rfl, ⟨ws, by rw [hK]; exact sqt⟩, ?_⟩
          have wd : WD c.K (Itt c.K tb) [(.tup ds, .ref tb)] ds true := wd_tup
          rw [hK]
          refine for_it wd.walk (fun i σ' H' => ∃ ρ', EnvOk c.K H0 Oc M ([((.tup ds : D), (V.ref tb))] ++ Ts) σ' H' ρ' ∧ Run (forF (exs c.F W M cb) ctg (ds.drop i) ρ') (FlOk c M fr H0 Oc Ts N) (XW c H0)) ?_ ?_ ?_ ?_
          · refine ⟨_, env1.tmps fun p hp => ?_, r⟩
            rcases List.mem_append.mp hp with hp | hp
            · have e : p = (.tup ds, .ref tb) := by simpa using hp
              rw [e]; exact ry1
            · exact env1.tmp p hp
          · rintro i σ' H' _ ⟨ρ', env', _⟩
            exact ⟨_, fun p hp => (env'.tmp p (List.mem_append_left _ hp)).b⟩
          · rintro i x σ' H2 H3 hi' ⟨ρ', env', run⟩ y
            obtain ⟨s3, d, hd3, rx⟩ := y _ env'.alloc fun p hp => (env'.tmp p (List.mem_append_left _ hp)).b
            rw [drop_cons' hd3] at run
            unfold forF at run
            obtain ⟨ρ1, eb, run⟩ := (Run.bind.mp run).nx (nx_bindT _ _ _)
            refine ⟨H0, Oc, _, ρ', d, ρ1, env'.same s3, rg_all (rx.2 rfl), eb, fun σ2 env2 _ _ => ?_⟩
            refine ⟨H0, Oc, _, ρ1, ho, env2, (Run.bind.mp run).mono (fun f hf => ?_) fun _ z => z⟩
            have drp : ∀ {σ'' : L2.St} {H'' : Hp} {ρ'' : Rho}, EnvOk c.K H0 Oc M ([((.tup ds : D), (V.ref tb))] ++ Ts) σ'' H'' ρ'' → EnvOk c.K H0 Oc M Ts σ'' H'' ρ'' := fun {_ _ _} e => e.tmps fun p hp => e.tmp p (List.mem_append_right _ hp)
            cases f with
            | nx ρ2 => exact fun σ3 H4 env3 => ⟨ρ2, env3, hf⟩
            | ct ρ2 => exact fun σ3 H4 env3 => ⟨ρ2, env3, hf⟩
            | bk ρ2 => exact fun σ3 H4 env3 => hf σ3 H4 (drp env3)
            | rt d => exact hf
          · rintro σ' H' ⟨ρ', env', run⟩
            rw [List.drop_length] at run
            exact run σ' H' (env'.tmps fun p hp => env'.tmp p (List.mem_append_right _ hp))
        | _ => exact r.elim
    | _ => exact r.elim
end
end MT
end
section
set_option Elab.async false
set_option linter.all false
set_option maxRecDepth 100000
set_option maxHeartbeats 4000000
/-! Mt9: things that are tracked for a while (a closure's object and cells). -/
namespace MT
open PySem PySem.Spec L2 LamX NdefX
def adC (H : Hp) (cs : List (Addr × Obj)) : Hp := fun b => match cs.lookup b with
  | some o => some (.frz o (.own b))
  | none => H b
def rmC (H : Hp) (cs : List (Addr × Obj)) : Hp := fun b => match cs.lookup b with
  | some _ => none
  | none => H b
section
variable {H H1 : Hp} {cs : List (Addr × Obj)} {b : Addr} {o : Obj}
theorem adC_in (h : cs.lookup b = some o) : adC H cs b = some (.frz o (.own b)) := by unfold adC; rw [h]
theorem adC_out (h : cs.lookup b = none) : adC H cs b = H b := by unfold adC; rw [h]
theorem rmC_in (h : cs.lookup b = some o) : rmC H cs b = none := by unfold rmC; rw [h]
theorem rmC_out (h : cs.lookup b = none) : rmC H cs b = H b := by unfold rmC; rw [h]
/-- the things are tracked so -/
def Fz (H : Hp) (cs : List (Addr × Obj)) : Prop := ∀ b o, cs.lookup b = some o → H b = some (.frz o (.own b))
/-- the things are not tracked -/
def Nz (H : Hp) (cs : List (Addr × Obj)) : Prop := ∀ b o, cs.lookup b = some o → H b = none
theorem Nz.out (h : Nz H cs) {u : HO} (e : H b = some u) : cs.lookup b = none := by
  cases q : cs.lookup b with
  | none => rfl
  | some o => rw [h b o q] at e; cases e
theorem Fz.out (h : Fz H cs) {u : HO} (e : H b = some u) (n : ∀ o, u ≠ .frz o (.own b)) : cs.lookup b = none := by
  cases q : cs.lookup b with
  | none => rfl
  | some o => rw [h b o q] at e; exact absurd (Option.some.inj e).symm (n o)
theorem Fz.outN (h : Fz H cs) (e : H b = none) : cs.lookup b = none := by
  cases q : cs.lookup b with
  | none => rfl
  | some o => rw [h b o q] at e; cases e
theorem adC_fz : Fz (adC H cs) cs := fun _ _ h => adC_in h
theorem rmC_nz : Nz (rmC H cs) cs := fun _ _ h => rmC_in h
theorem adC_ext (h : Nz H cs) : ∀ b u, H b = some u → adC H cs b = some u := fun b u e => by rw [adC_out (h.out e)]; exact e
theorem frz_own_tup (a : Addr) (xs : List V) (o : Obj) : HO.tup xs ≠ .frz o (.own a) := fun z => nomatch z
theorem tabs_rm {T : List (Addr × Str)} (h : Fz H cs) (t : Tabs T H) : Tabs T (rmC H cs) := fun p hp => by
  obtain ⟨ps, h1, h2, h3⟩ := t p hp
  refine ⟨ps, by rw [rmC_out (h.out h1 fun o z => nomatch z)]; exact h1, h2, fun pos cv hc => ?_⟩
  obtain ⟨c, e1, e2⟩ := h3 pos cv hc
  exact ⟨c, e1, by rw [rmC_out (h.out e2 fun o z => by unfold CodeO at z; cases z)]; exact e2⟩
theorem hok_ad {P : Program} {w : World} {h : Heap} (ok : HOk P w H h) (n : Nz H cs) (g : ∀ b o, cs.lookup b = some o → h.get? b = some o) : HOk P w (adC H cs) h := fun a u q => by
  cases e : cs.lookup a with
  | some ob => rw [adC_in e] at q; cases q; exact ⟨g a ob e, ⟨ob, g a ob e⟩⟩
  | none =>
    rw [adC_out e] at q
    exact (ok a u q).stay (fun b u _ z => z) (fun b z => adC_ext n b _ z) fun b xs z => adC_ext n b _ z
theorem hok_rm {P : Program} {w : World} {h : Heap} (ok : HOk P w H h) (n : Fz H cs) : HOk P w (rmC H cs) h := fun a u q => by
  cases e : cs.lookup a with
  | some ob => rw [rmC_in e] at q; cases q
  | none =>
    rw [rmC_out e] at q
    exact (ok a u q).stay (fun b u _ z => z) (fun b z => by rw [rmC_out (n.out z fun o y => nomatch y)]; exact z) fun b xs z => by rw [rmC_out (n.out z fun o y => nomatch y)]; exact z
theorem hok_fz {P : Program} {w : World} {h : Heap} (ok : HOk P w H h) (n : Fz H cs) : ∀ b o, cs.lookup b = some o → h.get? b = some o := fun b o e => (ok b _ (n b o e)).1
end
section
variable {P : Program} {w : World} {K : PySem.W.Frag} {mg : Str → Option Value} {base : Heap} {A : Around} {outer : List Env} {s s' : Shared} {H : Hp} {cs : List (Addr × Obj)} {Q : VK} {u : Value}
/-- things that stand, untracked, made by the running code -/
structure Fre (base : Heap) (outer : List Env) (s : Shared) (H : Hp) (cs : List (Addr × Obj)) : Prop where
  at_ : ∀ b o, cs.lookup b = some o → s.heap.get? b = some o
  nz : Nz H cs
  nb : ∀ b o, cs.lookup b = some o → base.get? b = none
  nf : ∀ b o, cs.lookup b = some o → b ∉ frs outer
  mem : ∀ p ∈ cs, s.heap.get? p.1 = some p.2
theorem env0_ad (e : Env0 P w K mg base A outer s H) (f : Fre base outer s H cs) : Env0 P w K mg base A outer s (adC H cs) where
  frames := e.frames
  mod := e.mod
  bs := fun b o h => ⟨(e.bs b o h).1, by
    have n : cs.lookup b = none := by
      cases q : cs.lookup b with
      | none => rfl
      | some o' => have := f.nb b o' q; rw [h] at this; cases this
    rw [adC_out n]; exact (e.bs b o h).2⟩
  bsz := e.bsz
  funs := e.funs
  frf := fun b hb => by
    have n : cs.lookup b = none := by
      cases q : cs.lookup b with
      | none => rfl
      | some o' => exact absurd hb (f.nf b o' q)
    rw [adC_out n]; exact e.frf b hb
  hok := hok_ad e.hok f.nz f.at_
  bare := e.bare
theorem ce_rm (f : Fre base outer s H cs) (h : CE outer P w (adC H cs) s Q u s') : CE outer P w H s (fun v H' => ∃ H1, H' = rmC H1 cs ∧ Fz H1 cs ∧ Q v H1) u s' := by
  obtain ⟨v, H1, os, bare, un, hok, r, q⟩ := h
  have fz : Fz H1 cs := fun b o e => un.frzs b o _ (adC_in e)
  refine ⟨v, rmC H1 cs, os, bare, ⟨fun b o e n hb hx => ?_, fun b o e n hb hx => ?_, fun b o e n hx => ?_, un.there, fun b xs e => ?_, fun b o u e => ?_, fun b ps e => ?_⟩, hok_rm hok fz, r, H1, rfl, fz, q⟩
  · cases c : cs.lookup b with
    | some o' =>
      have h1 := f.at_ b o' c
      rw [e] at h1
      cases h1
      exact (hok b _ (fz b o c)).1
    | none => exact un.keep b o e (by rw [adC_out c]; exact n) hb hx
  · cases c : cs.lookup b with
    | some o' => exact absurd hb (f.nf b o' c)
    | none => exact un.slot b o e (by rw [adC_out c]; exact n) hb hx
  · cases c : cs.lookup b with
    | some o' => exact rmC_in c
    | none => rw [rmC_out c]; exact un.free b o e (by rw [adC_out c]; exact n) hx
  · have c := f.nz.out e
    rw [rmC_out c]; exact un.tups b xs (by rw [adC_out c]; exact e)
  · have c := f.nz.out e
    rw [rmC_out c]; exact un.frzs b o u (by rw [adC_out c]; exact e)
  · have c := f.nz.out e
    rw [rmC_out c]; exact un.tbls b ps (by rw [adC_out c]; exact e)
theorem env0_rm (e : Env0 P w K mg base A outer s H) (f : Fz H cs) : Env0 P w K mg base A outer s (rmC H cs) where
  frames := e.frames
  mod := e.mod
  bs := fun b o h => ⟨(e.bs b o h).1, by rw [rmC_out (f.outN (e.bs b o h).2)]; exact (e.bs b o h).2⟩
  bsz := e.bsz
  funs := e.funs
  frf := fun b hb => by rw [rmC_out (f.outN (e.frf b hb))]; exact e.frf b hb
  hok := hok_rm e.hok f
  bare := e.bare
theorem ce_ad (e0 : Env0 P w K mg base A outer s H) (f : Fz H cs) (h : CE outer P w (rmC H cs) s Q u s') : CE outer P w H s (fun v H' => ∃ H1, H' = adC H1 cs ∧ Nz H1 cs ∧ Q v H1) u s' := by
  obtain ⟨v, H1, os, bare, un, hok, r, q⟩ := h
  have at0 := hok_fz e0.hok f
  have nf : ∀ b o, cs.lookup b = some o → b ∉ frs outer := fun b o e hb => by
    have := e0.frf b hb
    rw [f b o e] at this; cases this
  have nz : Nz H1 cs := fun b o e => un.free b o (at0 b o e) (rmC_in e) (by simp)
  have at1 : ∀ b o, cs.lookup b = some o → s'.heap.get? b = some o := fun b o e => un.keep b o (at0 b o e) (rmC_in e) (nf b o e) (by simp)
  refine ⟨v, adC H1 cs, os, bare, ⟨fun b o e n hb hx => ?_, fun b o e n hb hx => ?_, fun b o e n hx => ?_, un.there, fun b xs e => ?_, fun b o u e => ?_, fun b ps e => ?_⟩, hok_ad hok nz at1, r, H1, rfl, nz, q⟩
  · exact un.keep b o e (by rw [rmC_out (f.outN n)]; exact n) hb hx
  · exact un.slot b o e (by rw [rmC_out (f.outN n)]; exact n) hb hx
  · rw [adC_out (f.outN n)]; exact un.free b o e (by rw [rmC_out (f.outN n)]; exact n) hx
  · have c := f.out e fun o z => nomatch z
    rw [adC_out c]; exact un.tups b xs (by rw [rmC_out c]; exact e)
  · cases c : cs.lookup b with
    | some o' =>
      have h1 := f b o' c
      rw [e] at h1
      cases h1
      exact adC_in c
    | none => rw [adC_out c]; exact un.frzs b o u (by rw [rmC_out c]; exact e)
  · have c := f.out e fun o z => nomatch z
    rw [adC_out c]; exact un.tbls b ps (by rw [rmC_out c]; exact e)
end
section
variable [Pw] {H H1 : Hp} {cs : List (Addr × Obj)}
theorem same_rm (f : Nz H cs) (h1 : Fz H1 cs) (s : Same (adC H cs) H1) : Same H (rmC H1 cs) where
  all := fun b o e n => by
    have c := f.out e
    rw [rmC_out c]; exact s.all b o (by rw [adC_out c]; exact e) n
  nn := fun b e => by
    cases c : cs.lookup b with
    | some o => exact f b o c
    | none =>
      rw [rmC_out c] at e
      have := s.nn b e
      rw [adC_out c] at this; exact this
  tab := fun t => tabs_rm h1 (s.tab (t.ext (adC_ext f)))
theorem same_ad (h : Fz H cs) (n1 : Nz H1 cs) (s : Same (rmC H cs) H1) : Same H (adC H1 cs) where
  all := fun b o e n => by
    cases c : cs.lookup b with
    | some o' =>
      have h1 := h b o' c
      rw [e] at h1
      cases h1
      exact adC_in c
    | none => rw [adC_out c]; exact s.all b o (by rw [rmC_out c]; exact e) n
  nn := fun b e => by
    cases c : cs.lookup b with
    | some o => rw [adC_in c] at e; cases e
    | none =>
      rw [adC_out c] at e
      have := s.nn b e
      rw [rmC_out c] at this; exact this
  tab := fun t => (s.tab (tabs_rm h t)).ext (adC_ext n1)
end
theorem same_rm2 [Pw] {H1 H : Hp} {cs : List (Addr × Obj)} (f1 : Fz H1 cs) (f : Fz H cs) (s : Same H1 H) : Same (rmC H1 cs) (rmC H cs) where
  all := fun b o e n => by
    cases c : cs.lookup b with
    | some o' => rw [rmC_in c] at e; cases e
    | none => rw [rmC_out c] at e ⊢; exact s.all b o e n
  nn := fun b e => by
    cases c : cs.lookup b with
    | some o' => exact rmC_in c
    | none => rw [rmC_out c] at e ⊢; exact s.nn b e
  tab := fun t => tabs_rm f (s.tab (t.ext fun b o e => by
    cases c : cs.lookup b with
    | some o' => rw [rmC_in c] at e; cases e
    | none => rw [rmC_out c] at e; exact e))
theorem Same.pw {p1 p2 : Pw} (e : p1.tb = p2.tb) {H H' : Hp} (s : @Same p1 H H') : @Same p2 H H' := by
  have ht := @Same.tab p1 H H' s
  rw [e] at ht
  exact @Same.mk p2 H H' (fun b o q n => @Same.all p1 H H' s b o q n) (@Same.nn p1 H H' s) ht
section
variable {K : PySem.W.Frag} {H H' : Hp} {cs : List (Addr × Obj)}
mutual
theorem Rp.pw {p1 p2 : Pw} {O O' : Addr → Prop} : ∀ (d : D) (v : V), d.pure = true → @Rp p1 K H O d v → @Rp p2 K H O' d v
  | .non, _, _, h => h
  | .bl _, _, _, h => h
  | .int _, _, _, h => h
  | .str _, _, _, h => h
  | .tup ds, v, p, h => by
    simp only [Rp] at h ⊢
    obtain ⟨a, vs, e, s, l, r, n⟩ := h
    exact ⟨a, vs, e, s, l, Rps.pw ds vs (by simpa [D.pure] using p) r, n⟩
  | .lst _, _, p, _ => by simp [D.pure] at p
  | .dk _ _, _, p, _ => by simp [D.pure] at p
  | .dt _ _, _, p, _ => by simp [D.pure] at p
  | .scr _, _, p, _ => by simp [D.pure] at p
  | .adr _ _, _, p, _ => by simp [D.pure] at p
theorem Rps.pw {p1 p2 : Pw} {O O' : Addr → Prop} : ∀ (ds : List D) (vs : List V), D.pures ds = true → @Rps p1 K H O ds vs → @Rps p2 K H O' ds vs
  | [], [], _, _ => by simp only [Rps]
  | d :: r, v :: q, p, h => by
    simp only [D.pures, Bool.and_eq_true] at p
    simp only [Rps] at h ⊢
    exact ⟨Rp.pw d v p.1 h.1, Rps.pw r q p.2 h.2⟩
  | [], _ :: _, _, h => by simp only [Rps] at h
  | _ :: _, [], _, h => by simp only [Rps] at h
end
mutual
theorem Rp.rm [Pw] {O : Addr → Prop} (f : Fz H cs) (hk : ∀ a o, K.lookup a = some o → cs.lookup a = none) : ∀ (d : D) (v : V), d.pure = true → Rp K H O d v → Rp K (rmC H cs) O d v
  | .non, _, _, h => h
  | .bl _, _, _, h => h
  | .int _, _, _, h => h
  | .str _, _, _, h => h
  | .tup ds, v, p, h => by
    simp only [Rp] at h ⊢
    obtain ⟨a, vs, e, s, l, r, n⟩ := h
    have c : cs.lookup a = none := by
      rcases s with (s | ⟨o, s⟩) | ⟨o, _, _, s, _⟩
      · exact f.out s fun o z => nomatch z
      · exact f.out s fun o z => nomatch z
      · exact hk a o s
    refine ⟨a, vs, e, ?_, l, Rps.rm f hk ds vs (by simpa [D.pure] using p) r, ?_⟩
    · rcases s with (s | ⟨o, s⟩) | s
      · exact .inl (.inl (by rw [rmC_out c]; exact s))
      · exact .inl (.inr ⟨o, by rw [rmC_out c]; exact s⟩)
      · exact .inr s
    · rcases n with ⟨o, u, n1, n2⟩ | n
      · exact .inl ⟨o, u, by rw [rmC_out c]; exact n1, n2⟩
      · exact .inr n
  | .lst _, _, p, _ => by simp [D.pure] at p
  | .dk _ _, _, p, _ => by simp [D.pure] at p
  | .dt _ _, _, p, _ => by simp [D.pure] at p
  | .scr _, _, p, _ => by simp [D.pure] at p
  | .adr _ _, _, p, _ => by simp [D.pure] at p
theorem Rps.rm [Pw] {O : Addr → Prop} (f : Fz H cs) (hk : ∀ a o, K.lookup a = some o → cs.lookup a = none) : ∀ (ds : List D) (vs : List V), D.pures ds = true → Rps K H O ds vs → Rps K (rmC H cs) O ds vs
  | [], [], _, _ => by simp only [Rps]
  | d :: r, v :: q, p, h => by
    simp only [D.pures, Bool.and_eq_true] at p
    simp only [Rps] at h ⊢
    exact ⟨Rp.rm f hk d v p.1 h.1, Rps.rm f hk r q p.2 h.2⟩
  | [], _ :: _, _, h => by simp only [Rps] at h
  | _ :: _, [], _, h => by simp only [Rps] at h
end
end
section
variable {K : PySem.W.Frag} {H : Hp}
mutual
/-- what pure data leans on is finite -/
theorem Rp.sup {p1 : Pw} {O : Addr → Prop} : ∀ (d : D) (v : V), d.pure = true → @Rp p1 K H O d v → ∃ S : List (Addr × HO), (∀ p ∈ S, NT p.2 ∧ H p.1 = some p.2) ∧ ∀ (p2 : Pw) (H' : Hp) (O' : Addr → Prop), (∀ p ∈ S, H' p.1 = some p.2) → @Rp p2 K H' O' d v
  | .non, _, _, h => ⟨[], (fun _ z => nomatch z), fun _ _ _ _ => h⟩
  | .bl _, _, _, h => ⟨[], (fun _ z => nomatch z), fun _ _ _ _ => h⟩
  | .int _, _, _, h => ⟨[], (fun _ z => nomatch z), fun _ _ _ _ => h⟩
  | .str _, _, _, h => ⟨[], (fun _ z => nomatch z), fun _ _ _ _ => h⟩
  | .tup ds, v, p, h => by
    simp only [Rp] at h
    obtain ⟨a, vs, e, s, l, r, n⟩ := h
    obtain ⟨S, h1, h2⟩ := Rps.sup ds vs (by simpa [D.pure] using p) r
    have q1 : ∃ S1 : List (Addr × HO), (∀ p ∈ S1, NT p.2 ∧ H p.1 = some p.2) ∧ ∀ H' : Hp, (∀ p ∈ S1, H' p.1 = some p.2) → SqT K H' a vs := by
      rcases s with (s | ⟨o, s⟩) | s
      · refine ⟨[(a, .tup vs)], fun p hp => ?_, fun H' hq => .inl (.inl (hq _ List.mem_cons_self))⟩
        rw [List.mem_singleton] at hp; rw [hp]; exact ⟨(fun _ z => nomatch z), s⟩
      · refine ⟨[(a, .frz o (.tup vs))], fun p hp => ?_, fun H' hq => .inl (.inr ⟨o, hq _ List.mem_cons_self⟩)⟩
        rw [List.mem_singleton] at hp; rw [hp]; exact ⟨(fun _ z => nomatch z), s⟩
      · exact ⟨[], (fun _ z => nomatch z), fun H' _ => .inr s⟩
    have q2 : ∃ S1 : List (Addr × HO), (∀ p ∈ S1, NT p.2 ∧ H p.1 = some p.2) ∧ ∀ H' : Hp, (∀ p ∈ S1, H' p.1 = some p.2) → NoD K H' a := by
      rcases n with ⟨o, u, s, d⟩ | s
      · refine ⟨[(a, .frz o u)], fun p hp => ?_, fun H' hq => .inl ⟨o, u, hq _ List.mem_cons_self, d⟩⟩
        rw [List.mem_singleton] at hp; rw [hp]; exact ⟨(fun _ z => nomatch z), s⟩
      · exact ⟨[], (fun _ z => nomatch z), fun H' _ => .inr s⟩
    obtain ⟨S1, a1, a2⟩ := q1
    obtain ⟨S2, b1, b2⟩ := q2
    refine ⟨S ++ (S1 ++ S2), fun p hp => ?_, fun p2 H' O' hq => ?_⟩
    · rcases List.mem_append.mp hp with z | z
      · exact h1 p z
      · rcases List.mem_append.mp z with z | z
        · exact a1 p z
        · exact b1 p z
    · simp only [Rp]
      exact ⟨a, vs, e, a2 H' (fun p hp => hq p (List.mem_append_right _ (List.mem_append_left _ hp))), l, h2 p2 H' O' (fun p hp => hq p (List.mem_append_left _ hp)), b2 H' (fun p hp => hq p (List.mem_append_right _ (List.mem_append_right _ hp)))⟩
  | .lst _, _, p, _ => by simp [D.pure] at p
  | .dk _ _, _, p, _ => by simp [D.pure] at p
  | .dt _ _, _, p, _ => by simp [D.pure] at p
  | .scr _, _, p, _ => by simp [D.pure] at p
  | .adr _ _, _, p, _ => by simp [D.pure] at p
theorem Rps.sup {p1 : Pw} {O : Addr → Prop} : ∀ (ds : List D) (vs : List V), D.pures ds = true → @Rps p1 K H O ds vs → ∃ S : List (Addr × HO), (∀ p ∈ S, NT p.2 ∧ H p.1 = some p.2) ∧ ∀ (p2 : Pw) (H' : Hp) (O' : Addr → Prop), (∀ p ∈ S, H' p.1 = some p.2) → @Rps p2 K H' O' ds vs
  | [], [], _, _ => ⟨[], (fun _ z => nomatch z), fun _ _ _ _ => by simp only [Rps]⟩
  | d :: r, v :: q, p, h => by
    simp only [D.pures, Bool.and_eq_true] at p
    simp only [Rps] at h
    obtain ⟨S1, a1, a2⟩ := Rp.sup d v p.1 h.1
    obtain ⟨S2, b1, b2⟩ := Rps.sup r q p.2 h.2
    refine ⟨S1 ++ S2, fun p hp => ?_, fun p2 H' O' hq => ?_⟩
    · rcases List.mem_append.mp hp with z | z
      · exact a1 p z
      · exact b1 p z
    · simp only [Rps]
      exact ⟨a2 p2 H' O' fun p hp => hq p (List.mem_append_left _ hp), b2 p2 H' O' fun p hp => hq p (List.mem_append_right _ hp)⟩
  | [], _ :: _, _, h => by simp only [Rps] at h
  | _ :: _, [], _, h => by simp only [Rps] at h
end
end
/-- .. one that changes the dict it is given, and tells it -/
def CloW [Pw] (P : Program) (w : World) (mg : Str → Option Value) (base : Heap) (c : Cn) (k : Nat) : Prop :=
  (∀ (s : Shared) (H : Hp), HOk P w H s.heap → Amb H → PySem.W.FnAt (Pw.fa 999999) s.heap) ∧
    ∀ (A : Around) (outer : List Env) (s : Shared) (H1 H : Hp) (us : List Value) (v0 : V) (p : Addr) (d0 : D) (ks : List Ky) (ds : List D) (Q : VK), Room k A → Env0 P w c.K mg base A outer s H → Vals [v0, .ref p] us → Amb H1 → Same H1 H → H1 p = none →
      d0.pure = true → D.pures ds = true → Rp c.K H (fun _ => False) d0 v0 → Rb c.K H (fun _ => False) (.dk ks ds) (.ref p) → Run (c.F 1999998 [d0, .dk ks ds]) (fun d => ∀ v H', Same H1 H' → NwT c.K H1 H' (fun _ => False) d v → Q v H') (fun _ => False) →
      codeAny (model P w) A (.call (.ref (Pw.fa 999999)) ⟨us, []⟩) (CR (L2.CX P w) outer P w H s Q fun _ _ _ => False) s
/-- what the closure that a def was handed promises -/
def CloP [Pw] (P : Program) (w : World) (mg : Str → Option Value) (base : Heap) (c : Cn) (k : Nat) : Prop :=
  ∃ n : Nat, (∀ ds : List D, ds.length ≠ n → c.F 999999 ds = .no) ∧ (∀ (ds : List D) (x : Xc), c.F 999999 ds ≠ .exc x) ∧ (∀ (s : Shared) (H : Hp), HOk P w H s.heap → Amb H → PySem.W.FnAt (Pw.fa 999999) s.heap) ∧
    ∀ (A : Around) (outer : List Env) (s : Shared) (H : Hp) (us : List Value) (vs : List V) (Q : VK), Room k A → Env0 P w c.K mg base A outer s H → Vals vs us → spD c n 999999 vs H Q (fun _ _ _ => False) →
      codeAny (model P w) A (.call (.ref (Pw.fa 999999)) ⟨us, []⟩) (CR (L2.CX P w) outer P w H s Q fun _ _ _ => False) s
end MT
end
section
set_option Elab.async false
set_option linter.all false
set_option maxRecDepth 100000
set_option maxHeartbeats 4000000
/-! Mt7: own errors: raised, caught, asked; defs as values. (The part of NoValue: turned from skel 42.) -/
namespace PySem
namespace NvX
open PySem.W PySem.Calls PyProof.Rows PySem.HandSPX
/-! ### the text of __init__ -/
def iA (p1 p2 : Pos) : Arguments := { posonlyargs := [], args := [{ arg := "self", annotation := none, pos := p1 }, { arg := "name", annotation := none, pos := p2 }], vararg := none, kwonlyargs := [], kw_defaults := [], kwarg := none, defaults := [] }
def iB (q1 q2 q3 q4 : Pos) : List Stmt := [.Assign [.Attribute (.Name "self" q1) "name" q2] (.Name "name" q3) q4]
def iS : Scope := { kind := .function, names := [(PySem.Str.ofString "self", .local), (PySem.Str.ofString "name", .local)], isGenerator := false, isCoroutine := false, more := [] }
/-- what the written part says of NoValue, at C, and of its __init__, at fI -/
structure NvTxt (K : Frag) (mg : Str → Option Value) (C fI : Addr) : Prop where
  gC : mg "NoValue" = some (.ref C)
  cls : ∃ nm q N bs bm sn sub ab col dd k0 k1 k2 k3 k5, K.lookup C = some (excClassObj nm q C N bs bm true sn sub ab col dd k0 k1 k2 k3 k5 "ValueError.__new__") ∧ refsVE bm = true
  sa : findIn K (.ref C) "__setattr__" = some (some (.builtin "object.__setattr__"))
  ga : findIn K (.ref C) "__getattribute__" = some (some (.builtin "BaseException.__getattribute__"))
  gg : findIn K (.ref C) "__getattr__" = some none
  noN : findIn K (.ref C) "name" = some none
  iC : findIn K (.ref C) "__init__" = some (some (.ref fI))
  tC : typeIn K (.ref fI) = some (.type "function")
  kC : keepIn K (.ref C) = true
  exC : subIn K (.ref C) (.type "BaseException") = some true
  tyC : typeIn K (.ref C) = some (.type "type")
  hdC : hasDictIn K C = true
  fn : ∃ (oc : Value) (od : Option Addr) (doc pm : Value) (an : Option Addr) (cdv ct : Value) (osl : Array (Option Value)) (p1 p2 q1 q2 q3 q4 : Pos),
    K.lookup fI = some ⟨oc, od, .func (fnOf "__init__" "NoValue.__init__" (iA p1 p2) (iB q1 q2 q3 q4) iS .none .none doc pm an cdv ct), osl⟩ ∧ codeIn K cdv "NoValue.__init__" = true
theorem one_size (v : Value) : [v].length ≤ sizeLine := by
  rw [sizeLine_eq]
  exact (by decide : 1 ≤ 16777216)
theorem kept_but {K : Frag} {h h' : Heap} {x : Addr} (X : K.In h) (hx : K.lookup x = none) (k : ∀ b o, b ≠ x → h.get? b = some o → h'.get? b = some o) : K.In h' := fun a o e =>
  k a o (fun z => by rw [z, hx] at e; cases e) (X a o e)
theorem ldC {M : Model} {s : Shared} {name : Str} {scope : Scope} {L a : Addr} {cd : Value} {m : Str → Option Value} {x : Str} {pos : Pos} {v : Value} {Q : Value → Shared → Prop} {A : Around} {E : Value → Shared → Prop} (hn : s.heap.Ns L m) (hv : m x = some v) (h : Q v s)
    (hk : scope.kind = .function := by rfl) (hl : (envOfC name scope L a cd).kindOf x = some .local := by rfl) (hd : (x == ("__debug__" : Str)) = false := by decide) :
    wpAny M A (eval (.Name x pos) (envOfC name scope L a cd)) Q E s := wpAny_Name (wpAny_loadName_local hk hl hn hv h) hd
/-- what __init__ leaves of a fresh exception at x -/
structure InitEnd (h h' : Heap) (x C dx t1 : Addr) (v : Value) : Prop where
  keep : ∀ b o, b ≠ x → h.get? b = some o → h'.get? b = some o
  obj : h'.get? x = some { cls := .ref C, dict := some dx, data := .fields #[.ref t1, .none, .none, .none, .bool false, .none] }
  dbig : h.objs.size ≤ dx
  dne : dx ≠ x
  ns : h'.Ns1 dx (fun y => if y = "name" then some v else none)
/-- a made NoValue -/
structure OwnMade (h h' : Heap) (e C d : Addr) (v : Value) : Prop where
  keep : ∀ b o, h.get? b = some o → h'.get? b = some o
  new : h.objs.size ≤ e
  obj : ∃ oe vs, h'.get? e = some oe ∧ oe.cls = .ref C ∧ oe.dict = some d ∧ oe.data = .fields vs ∧ vs[1]? = some .none
  dbig : h.objs.size ≤ d
  dne : d ≠ e
  ns : h'.Ns1 d (fun y => if y = "name" then some v else none)
section
variable {prog : Program} {w : World} {A : Around} {E : Value → Shared → Prop} {R : Result → Shared → Prop} {s : Shared} {K : Frag} {mg : Str → Option Value} {C fI : Addr}
theorem nv_init (T : NvTxt K mg C fI) {x t0 : Addr} {v : Value} (X : K.In s.heap) (hlim : s.heap.NoLimit) (hx : s.heap.get? x = some (excO C t0)) (hnx : K.lookup x = none) (hroom : A.depth < recursionLimit)
    (hq : ∀ h' tk dx, InitEnd s.heap h' x C dx t0 v → R (.ok (.ret .none)) { s with heap := h', toks := tk }) :
    codeAny (model prog w) A (.call (.ref fI) ⟨[.ref x, v], []⟩) R s := by
  obtain ⟨oc, od, doc, pm, an, cdv, ct, osl, p1, p2, q1, q2, q3, q4, ho, hcd⟩ := T.fn
  obtain ⟨nm, q, N, bs, bm, sn, sub, ab, col, dd, k0, k1, k2, k3, k5, hC, hbm⟩ := T.cls
  have hcl : clsIn K C = some { name := nm, bases := bs, mro := .ref C :: bm, ns := N, qualname := q, hasDict := true, slotNames := sn, subclasses := sub, abstract := ab, collection := col, hasDel := false } := by unfold clsIn; rw [hC] <;> rfl
  refine Att.call_fn (binds := [("self", .ref x), ("name", v)]) X hlim ho hcd hroom (BindsTo.of_eq (by first | rfl | with_unfolding_all rfl)) (by first | rfl | decide | with_unfolding_all rfl) (fun s₁ IC => ?_) rfl rfl rfl
  obtain ⟨h₁, tk₁, rfl⟩ := IC.toInCall.same
  have k : ∀ b o, s.heap.get? b = some o → h₁.get? b = some o := IC.toInCall.keep
  have hn := IC.toInCall.ns
  have hxL : s.heap.objs.size ≠ x := Nat.ne_of_gt (Heap.lt_size hx)
  have X₁ : K.In h₁ := X.keeps k
  have hx₁ := k _ _ hx
  -- self.by = by
  show wpAny _ _ (execs _ _) _ _ _
  refine wpAny_execs_cons (plainObj_wpAny_Assign_Attribute ?_)
  refine ldC (v := v) hn (by first | rfl | with_unfolding_all rfl | kernel_rfl) (ldC (v := .ref x) hn (by first | rfl | with_unfolding_all rfl | kernel_rfl) ?_)
  refine set_plain X₁ (ox := excO C t0) (od := none) ⟨hx₁, rfl, rfl, trivial⟩ T.sa ?_
  refine exc_osa X₁ hx₁ hcl (show refsVE (.ref C :: bm) = true from hbm) rfl T.noN (fun h₃ tk₃ dx k₃ dn dne hx₃ hn₃ => ?_)
  show wpAny _ _ (execs _ _) _ _ _
  have z : s.heap.objs.size < h₁.objs.size := hn.lt
  exact wpAny_execs_nil (hq h₃ tk₃ dx ⟨fun b o hb e => k₃ b o hb (k b o e), hx₃, Nat.le_of_lt (Nat.lt_of_lt_of_le z dn), dne, hn₃⟩)
theorem nv_made (T : NvTxt K mg C fI) {v : Value} (X : K.In s.heap) (hlim : s.heap.NoLimit) (hroom : A.depth + 1 < recursionLimit)
    (hq : ∀ h' tk e d, OwnMade s.heap h' e C d v → R (.ok (.ret (.ref e))) { s with heap := h', toks := tk }) :
    codeAny (model prog w) A (.call (.ref C) ⟨[v], []⟩) R s := by
  obtain ⟨nm, q, N, bs, bm, sn, sub, ab, col, dd, k0, k1, k2, k3, k5, hC, hbm⟩ := T.cls
  obtain ⟨hp, g, dr, tk, os⟩ := s
  have k : ∀ b o, hp.get? b = some o → ((hp.push (kdv_tup [v])).push (excO C hp.objs.size)).get? b = some o := fun b o e => Heap.get?_push_of_some _ (Heap.get?_push_of_some _ e)
  have hget : ((hp.push (kdv_tup [v])).push (excO C hp.objs.size)).get? (hp.objs.size + 1) = some (excO C hp.objs.size) := by heap_get
  have hnx : K.lookup (hp.objs.size + 1) = none := by
    cases e : K.lookup (hp.objs.size + 1) with
    | none => rfl
    | some o =>
      have z : hp.get? (hp.objs.size + 1) = some o := X _ _ e
      exact absurd (Nat.lt_of_succ_lt (Heap.lt_size z)) (Nat.lt_irrefl _)
  refine call_own F.excBase_ValueError (fun X => refsVE_contains X bm hbm) (X _ _ hC) (looks_findIn X T.iC) (fun self => bind_fn X self T.tC) (one_size v) ?_
  refine nv_init (s := ⟨(hp.push (kdv_tup [v])).push (excO C hp.objs.size), g, dr, tk, os⟩) T (X.keeps k) (hlim.keeps k) hget hnx ?_ fun h' tk' dx ⟨k', hx, dn, dne, hns⟩ => ?_
  · show A.depth + 1 < recursionLimit
    exact hroom
  · have old : ∀ b o, hp.get? b = some o → h'.get? b = some o := fun b o e => k' b o (Nat.ne_of_lt (Nat.lt_succ_of_lt (Heap.lt_size e))) (k b o e)
    have z : hp.objs.size + 1 + 1 ≤ dx := by
      first
        | (simpa only [Heap.size_push] using dn)
        | exact dn
        | (have q := dn; rw [Heap.size_push, Heap.size_push] at q; exact q)
    exact ⟨rfl, hq h' tk' (hp.objs.size + 1) dx ⟨old, Nat.le_succ _, ⟨_, _, hx, rfl, rfl, rfl, rfl⟩, Nat.le_trans (Nat.le_trans (Nat.le_succ _) (Nat.le_succ _)) z, dne, hns⟩⟩
end
end NvX
end PySem
namespace L2
open PySem PySem.Spec PyProof.Rows
theorem relO_nv {v : V} {v' : Value} (r : RelV v v') (f : Str) : RelO (List.lookup f [(("name" : Str), v)]) (if f = "name" then some v' else none) := by
  by_cases hw : f = "name"
  · subst hw
    rw [if_pos rfl]
    have q : List.lookup ("name" : Str) [(("name" : Str), v)] = some v := by simp [List.lookup]
    rw [q]
    exact r
  · rw [if_neg hw]
    have qw : (f == ("name" : Str)) = false := by simpa using hw
    have q2 : List.lookup f [(("name" : Str), v)] = none := by simp [List.lookup, qw]
    rw [q2]
    trivial
section
variable {X : Cx} {C fI : Addr}
/-- NoValue(e) -/
def tMkNv (C : Addr) (ta : TA) : St → Hp → XK → Prop := fun σ H Q => ta σ H fun vs H1 => ∃ v, vs = [v] ∧ ∀ d, H1 d = none → Q (.ref C) (some d) (upd H1 d (.xd [(("name" : Str), v)]))
theorem pmk_nv {a : Expr} {ta : TA} {p pos : Pos} {k : Nat} (T : PySem.NvX.NvTxt X.K X.mg C fI) (hr : Room k X.A) (ha : PA X [a] ta) (hg : Gl X "NoValue" := by rfl)
    (he : starEach (a :: []) X.env = (false, eval a X.env) :: starEach [] X.env := by rfl) (hpl : (backTo pos (starEach [] X.env)).any (·.1) = false := by rfl) :
    PMk X (.Call (.Name "NoValue" p) [a] [] pos) (tMkNv C ta) := by
  intro pins s σ H Q I h
  refine wpAny_Call_Name_kw (ld_glob I hg T.gC ?_)
  refine PySem.W.callWith_K (h₀ := X.base) I.ok.mod.kin T.kC (thn (ha.run pos pins s σ H _ I h) fun us s1 hh => ?_) he hpl
  obtain ⟨vs, H1, I1, r1, v, ev, q1⟩ := hh
  subst ev
  refine ⟨I1.kIn, ?_⟩
  cases r1 with
  | cons rv rn =>
    rename_i v' us'
    cases rn
    show wpAny _ _ (call (.ref C) [v']) _ _ _
    have hlim := I1.nolimit
    obtain ⟨hp, g, dr, tk, os⟩ := s1
    refine wpAny_call (PySem.NvX.nv_made T I1.kIn hlim (by have := hr.dp; omega) fun h' tk' e d M => ?_)
    show MkP X pins σ Q (.ref e) ⟨h', g, dr, tk', os⟩
    obtain ⟨oe, fv, hoe, hc, hd, hdat, h1⟩ := M.obj
    have hns := M.ns
    obtain ⟨G', g1, g2⟩ := restrict h' fun b => decide (b ≠ e)
    have gk : ∀ b, b ≠ e → G'.get? b = h'.get? b := fun b hb => g1 b (decide_eq_true hb)
    have ge : G'.get? e = none := g2 e (by simp)
    have old : ∀ b o, hp.get? b = some o → G'.get? b = some o := fun b o q => (gk b (Nat.ne_of_lt (Nat.lt_of_lt_of_le (Heap.lt_size q) M.new))).trans (M.keep b o q)
    have ob : ObjOk X.prog X.w (upd H1 d (.xd [(("name" : Str), v)])) G' d (.xd [(("name" : Str), v)]) :=
      ⟨_, hns.at (fun o q => (gk d M.dne).trans q), fun f => relO_nv rv f⟩
    have J : Inv X pins σ (upd H1 d (.xd [(("name" : Str), v)])) ⟨G', g, dr, tk', os⟩ := I1.laid (t' := tk') old M.dbig ob
    refine ⟨e, oe, fv, ⟨G', g, dr, tk', os⟩, _, .ref C, some d, rfl, J, fun b o q => ?_, ge, hoe, ⟨hc, hd⟩, hdat, h1, ?_, rfl, I1.bare, raises_own T.exC T.tyC, q1 d (I1.hok.fresh M.dbig)⟩
    · by_cases hb : b = e
      · have q' : G'.get? b = some o := q
        rw [hb, ge] at q'; cases q'
      · exact (gk b hb).symm.trans q
    · rw [upd_ne (Ne.symm M.dne)]
      exact I1.hok.fresh M.new
/-- raise NoValue(e) -/
def tRaiseNv (C : Addr) (W : WX) (ta : TA) : TS := fun _ σ H => tMkNv C ta σ H fun cls d H' => W cls d σ H'
theorem ps_raiseNv {a : Expr} {ta : TA} {W : WX} {p pos pos2 : Pos} {k : Nat} (hc : X.calm = true) (T : PySem.NvX.NvTxt X.K X.mg C fI) (hr : Room k X.A) (tk : Takes X W) (ha : PA X [a] ta) (hg : Gl X "NoValue" := by rfl)
    (he : starEach (a :: []) X.env = (false, eval a X.env) :: starEach [] X.env := by rfl) (hpl : (backTo pos (starEach [] X.env)).any (·.1) = false := by rfl) :
    PS X (.Raise (some (.Call (.Name "NoValue" p) [a] [] pos)) none pos2) (tRaiseNv C W ta) := ps_raise hc tk (pmk_nv T hr ha hg he hpl)
end
end L2

namespace MT
open PySem PySem.Spec L2
section
variable [Pw]
/-- the address of an own error's class -/
def xC (b : Nat) : Addr := Pw.fa (900000 + b)
def xV (b : Nat) : Value := if b = 6 then .type "ValueError" else .ref (xC b)
abbrev VEc : List Value := [.type "ValueError", .type "Exception", .type "BaseException", .type "object"]
/-- what the written part says of the class b of own errors; ns: the classes that isinstance asks for -/
structure XcOk (K : PySem.W.Frag) (ns : List Nat) (b : Nat) : Prop where
  mg : Pw.mg (toS (xNm b)) = some (.ref (xC b))
  kp : PySem.W.keepIn K (.ref (xC b)) = true
  ex : PySem.W.subIn K (.ref (xC b)) (.type "BaseException") = some true
  ty : PySem.W.typeIn K (.ref (xC b)) = some (.type "type")
  hd : PySem.W.hasDictIn K (xC b) = true
  ga : PySem.W.findIn K (.ref (xC b)) "__getattribute__" = some (some (.builtin "BaseException.__getattribute__"))
  gg : PySem.W.findIn K (.ref (xC b)) "__getattr__" = some none
  ca : PySem.W.findIn K (.ref (xC b)) "__class__" = some (some (.builtin "object.__class__"))
  cg : PySem.W.specialIn K (.builtin "object.__class__") "__get__" = some (some (.builtin "getset_descriptor.__get__"))
  ct : PySem.W.takesIn K (.builtin "object.__class__") = some true
  mo : PySem.W.mroIn K (xC b) (.type "object") = some true
  nn : PySem.W.findIn K (.ref (xC b)) "name" = some none
  isa : ∀ b' ∈ ns, PySem.W.kitOne K (.ref (xC b)) (xV b') = some (isaX b b')
  te : PySem.W.exmOne K (.ref (xC b)) (.ref (xC 0)) = some true
  own : b ≠ 1 → PySem.W.excIn K (xC b) VEc "ValueError.__new__" = true
  nv : b = 1 → ∃ fI, PySem.NvX.NvTxt K Pw.mg (xC b) fI
/-- how an exception lies -/
def xrP (L : List Nat) : XR := fun x cls da H => x.cls ∈ L ∧ cls = .ref (xC x.cls) ∧
  ((x.arg = none ∧ x.cls ≠ 1 ∧ da = none) ∨ ∃ s dd, x.cls = 1 ∧ x.arg = some (.str s) ∧ okS s ∧ da = some dd ∧ H dd = some (.xd [(("name" : Str), V.str (toS s))]))
end
section
variable [Pw] {c : Cn} {M : List Nat} {X : Cx} {pos : Pos} {W : Nat} {fr : Bool} {L ns : List Nat}
/-- raise X('m') -/
theorem ps_raiO {b : Nat} {x m : Str} {j : Nat} {p p2 pos2 : Pos} (hK : X.K = c.K) (hmg : X.mg = Pw.mg) (hxr : c.xr = xrP L) (hc : X.calm = true) (tk : Takes X (fun cls d _ H => c.wish cls d H)) (hb : b ∈ L) (h1 : b ≠ 1) (hX : XcOk c.K ns b) (hx : x = toS (xNm b)) (hg : Gl X x) (hdb : (x == ("__debug__" : Str)) = false) :
    PS X (.Raise (some (.Call (.Name x p) [.Constant (.str m) j p2] [] pos)) none pos2) (tSD c W M fr (.rai b none)) := by
  have q := hX.own h1
  have kp := hX.kp
  have e1 := hX.ex
  have e2 := hX.ty
  rw [← hK] at q kp e1 e2
  refine (ps_raise hc tk (pmk_own PySem.F.excBase_ValueError q (by rw [hmg, hx]; exact hX.mg) kp (raises_own e1 e2) hg hdb)).imp fun N σ H ⟨H0, Oc, Ts, ρ, ho, env, r⟩ => ?_
  simp only [ex, raiD, if_neg h1] at r
  have r' : XW c H0 ⟨b, none⟩ := r
  exact r' _ none H env.base (fun d e => nomatch e) (by rw [hxr]; exact ⟨hb, rfl, .inl ⟨rfl, h1, rfl⟩⟩)
/-- raise NoValue(e) -/
theorem ps_raiN {a : Expr} {ce : E} {k : Nat} {p pos2 : Pos} (hK : X.K = c.K) (hmg : X.mg = Pw.mg) (hxr : c.xr = xrP L) (hc : X.calm = true) (tk : Takes X (fun cls d _ H => c.wish cls d H)) (hr : Room k X.A) (hb : 1 ∈ L) (hX : XcOk c.K ns 1) (hg : Gl X "NoValue") (ha : PE X a (tE c M ce)) (hs : NoStar X a) :
    PS X (.Raise (some (.Call (.Name "NoValue" p) [a] [] pos)) none pos2) (tSD c W M fr (.rai 1 (some ce))) := by
  obtain ⟨fI, T⟩ := hX.nv rfl
  rw [← hK, ← hmg] at T
  refine (ps_raiseNv hc T hr tk (pa_cons ha pa_nil (hs _)) hg (hs _) rfl).imp fun N σ H ⟨H0, Oc, Ts, ρ, ho, env, r⟩ => ?_
  simp only [ex, raiD] at r
  refine tE_step env.base env r fun v H1 d s1 vk env1 r1 => ?_
  refine ⟨v, rfl, fun dd hd => ?_⟩
  cases d with
  | str s =>
    obtain ⟨ev, os⟩ := rb_str vk.rb
    subst ev
    have r' : XW c H0 ⟨1, some (.str s)⟩ := r1
    exact r' _ (some dd) _ (env1.base.trans (Same.new hd)) (fun d e => by cases e; exact env1.base.free hd) (by rw [hxr]; exact ⟨hb, rfl, .inr ⟨s, dd, rfl, rfl, os, rfl, upd_same⟩⟩)
  | _ => exact r1.elim
/-! ### isinstance(e, C), e.name in the suite -/
def rIsX (K : PySem.W.Frag) (ns : List Nat) (b : Nat) (a : Addr) (d : Option Addr) : List V → Hp → VK → Prop := fun xs H Q => ∃ (cV : V) (b' : Nat), xs = [.ref a, cV] ∧ b' ∈ ns ∧ (∀ u, RelV cV u → u = xV b') ∧ (∀ dd, d = some dd → ∃ fs, H dd = some (.xd fs)) ∧ Q (.bl (isaX b b')) H
theorem call_isX {a : Addr} {oe : Obj} {pn : List (Addr × Obj)} {b : Nat} {d : Option Addr} (hX : XcOk X.K ns b) (hz : Zc (.ref (xC b)) d oe) (hf : ∃ vs, oe.data = .fields vs) : CallR (X.suite a ((a, oe) :: pn)) (.builtin "isinstance") (rIsX X.K ns b a d) := by
  intro pins s σ H xs us Q I r h
  obtain ⟨cV, b', rfl, hb', hcv, hdd, q⟩ := h
  cases r with
  | cons rx rr =>
    cases rr with
    | cons rt rr =>
      cases rr
      cases rx
      have ec := hcv _ rt
      subst ec
      obtain ⟨hget, _⟩ := I.pin (a, oe) (List.mem_append.mpr (.inl List.mem_cons_self))
      obtain ⟨vs, hv⟩ := hf
      have J : ∃ od, PySem.W.InstAt s.heap a oe (xC b) od := by
        cases d with
        | none => exact ⟨none, hget, hz.1, by unfold PySem.W.notCls; rw [hv] <;> rfl, by rw [hz.2]; trivial⟩
        | some dd =>
          obtain ⟨fs, ea⟩ := hdd dd rfl
          have hx : ObjOk X.prog X.w H s.heap dd (.xd fs) := I.hok dd _ ea
          obtain ⟨mA, hns, hr⟩ := hx
          obtain ⟨od, ho, hl⟩ := lookIn_ns hns
          exact ⟨some od, hget, hz.1, by unfold PySem.W.notCls; rw [hv] <;> rfl, by rw [hz.2]; exact ho⟩
      obtain ⟨od, J⟩ := J
      have hcl : (PySem.W.clsIn X.K (xC b)).isSome = true := by
        obtain ⟨cd, hc, _⟩ := PySem.W.any_some hX.hd
        rw [hc]; rfl
      exact PySem.W.kia_one (PySem.W.kitx_exc (gt := none) hcl hX.ga hX.gg hX.ex hX.ca hX.cg hX.ct hX.mo) I.kIn J (hX.isa b' hb') (fun z => nomatch z) fun tk => ⟨.bl _, H, I.kept (t' := tk) fun _ _ z => z, rfl, q⟩
/-- the suite's oracle: 1000 + b: isinstance(e, b); 999: e.name -/
def Fx (x : Xc) (a : Nat) (y : Option (Nat × List Nat)) : Nat → List D → R D
  | f, [.adr n z] => if n = 1000000 + a ∧ z = y then (if f = 999 then evHa x [] .nm else .ok (.bl (isaX x.cls (f - 1000)))) else .no
  | _, _ => .no
def hcx (c : Cn) (x : Xc) (a : Nat) (y : Option (Nat × List Nat)) : Cn := { K := c.K, F := Fx x a y, frf := fun _ => false, xr := c.xr, wish := E0 }
theorem adOf_ex {a : Nat} : adOf (1000000 + a) = a := by
  unfold adOf
  rw [if_pos (by omega)]
  exact Nat.add_sub_cancel_left 1000000 a
theorem ev_cal1 {F : Nat → List D → R D} {f j : Nat} {ρ : Rho} : ev F (.call f [.var j]) ρ = (do let d ← ev F (.var j) ρ; F f [d]) := by
  simp only [ev, evs, bind_assoc']
  congr 1
theorem Fx_adr {x : Xc} {a : Nat} {y : Option (Nat × List Nat)} {f : Nat} {d : D} {k : D → Prop} {xk : Xc → Prop} (r : Run (Fx x a y f [d]) k xk) : d = .adr (1000000 + a) y ∧ Run (if f = 999 then evHa x [] .nm else .ok (.bl (isaX x.cls (f - 1000)))) k xk := by
  cases d with
  | adr n z =>
    simp only [Fx] at r
    by_cases h : n = 1000000 + a ∧ z = y
    · rw [if_pos h] at r
      rw [h.1, h.2]
      exact ⟨rfl, r⟩
    · rw [if_neg h] at r
      exact r.elim
  | _ => exact r.elim
theorem Rb.adr {K : PySem.W.Frag} {H : Hp} {O : Addr → Prop} {n : Nat} {y : Option (Nat × List Nat)} {v : V} (h : Rb K H O (.adr n y) v) : v = .ref (adOf n) ∧ ∀ p, y = some p → H p.1 = some (.xd [(("name" : Str), V.str (toS p.2))]) := by
  have h' : Rp K H O (.adr n y) v := h
  simp only [Rp] at h'
  exact ⟨h'.1, fun p e => (h'.2 p e).2⟩
theorem pe_isX {a : Addr} {oe : Obj} {pn : List (Addr × Obj)} {d : Option Addr} {x : Xc} {y : Option (Nat × List Nat)} {b' j : Nat} {n z : Str} {p p1 p2 : Pos} (hK : X.K = c.K) (hX : XcOk c.K ns x.cls) (hz : Zc (.ref (xC x.cls)) d oe) (hf : ∃ vs, oe.data = .fields vs) (hd : d = y.map (·.1)) (hb : b' ∈ ns)
    (hg : Gl X "isinstance") (hm : X.mg "isinstance" = none) (hN : X.N[j]? = some n) (hv : Vis X.env.scope n) (hdb : (n == ("__debug__" : Str)) = false) (hcd : (n == ("__classdict__" : Str)) = false)
    (hgz : Gl X z) (hzd : (z == ("__debug__" : Str)) = false) (hzb : (b' = 6 ∧ z = "ValueError" ∧ X.mg z = none) ∨ (b' ≠ 6 ∧ X.mg z = some (.ref (xC b')))) :
    PE (X.suite a ((a, oe) :: pn)) (.Call (.Name "isinstance" p) [.Name n p1, .Name z p2] [] pos) (tE (hcx c x a y) M (.call (1000 + b') [.var j])) := by
  have key : ∀ {vB : V}, PE (X.suite a ((a, oe) :: pn)) (.Name z p2) (tC vB) → (∀ u, RelV vB u → u = xV b') → PE (X.suite a ((a, oe) :: pn)) (.Call (.Name "isinstance" p) [.Name n p1, .Name z p2] [] pos) (tE (hcx c x a y) M (.call (1000 + b') [.var j])) := by
    intro vB pB hcv
    refine (pe_callB (call_isX (X := X) (ns := ns) (d := d) (by rw [hK]; exact hX) hz hf) hg hm boot_isi (pa_cons (pe_varD (c := hcx c x a y) (M := M) hN hv hdb hcd) (pa_cons pB pa_nil)) (by decide +kernel) (by decide +kernel)).imp fun σ H Q ⟨H0, Oc, Ts, ρ, env, r⟩ => ?_
    rw [ev_cal1] at r
    refine tE_step (Same.refl H) env r fun u H1 d1 s1 v1 env1 r1 => ?_
    obtain ⟨e1, r2⟩ := Fx_adr r1
    subst e1
    obtain ⟨e2, e3⟩ := v1.rb.adr
    rw [adOf_ex] at e2
    subst e2
    rw [if_neg (by omega), show 1000 + b' - 1000 = b' by omega] at r2
    refine ⟨vB, b', rfl, hb, hcv, fun dd e => ?_, r2 _ H1 s1 (Vok.sc rfl rfl rfl)⟩
    rw [hd] at e
    cases y with
    | none => cases e
    | some q => cases e; exact ⟨_, e3 q rfl⟩
  rcases hzb with ⟨h1, h2, h3⟩ | ⟨h1, h2⟩
  · subst h2
    refine key (vB := .ty "ValueError") (pe_bltn hgz h3 PyProof.Rows.Boot.«ValueError» rfl) (fun u r => ?_)
    unfold xV
    rw [if_pos h1]
    exact r
  · refine key (vB := .ref (xC b')) (pe_glob hgz h2 rfl hzd) (fun u r => ?_)
    unfold xV
    rw [if_neg h1]
    exact r
theorem pe_nmX {a : Addr} {oe : Obj} {pn : List (Addr × Obj)} {d : Option Addr} {x : Xc} {y : Option (Nat × List Nat)} {j : Nat} {n : Str} {p : Pos} (hK : X.K = c.K) (hX : XcOk c.K ns x.cls) (hz : Zc (.ref (xC x.cls)) d oe) (hf : ∃ vs, oe.data = .fields vs) (hd : d = y.map (·.1)) (hy : ∀ s, x.arg = some (.str s) → okS s ∧ ∃ dd, y = some (dd, s))
    (hN : X.N[j]? = some n) (hv : Vis X.env.scope n) (hdb : (n == ("__debug__" : Str)) = false) (hcd : (n == ("__classdict__" : Str)) = false) :
    PE (X.suite a ((a, oe) :: pn)) (.Attribute (.Name n p) "name" pos) (tE (hcx c x a y) M (.call 999 [.var j])) := by
  have hX' : XcOk X.K ns x.cls := by rw [hK]; exact hX
  refine (pe_xf (C := xC x.cls) ⟨hX'.ga, hX'.gg, hX'.ex, hX'.hd⟩ hX'.nn hz hf (pe_varD (c := hcx c x a y) (M := M) hN hv hdb hcd)).imp fun σ H Q ⟨H0, Oc, Ts, ρ, env, r⟩ => ?_
  rw [ev_cal1] at r
  refine tE_step (Same.refl H) env r fun u H1 d1 s1 v1 env1 r1 => ?_
  obtain ⟨e1, r2⟩ := Fx_adr r1
  subst e1
  obtain ⟨e2, e3⟩ := v1.rb.adr
  rw [adOf_ex] at e2
  subst e2
  rw [if_pos rfl] at r2
  simp only [evHa] at r2
  cases ha : x.arg with
  | none => rw [ha] at r2; exact r2.elim
  | some q =>
    rw [ha] at r2
    cases q with
    | str s =>
      obtain ⟨os, dd, ey⟩ := hy s ha
      have e4 := e3 _ ey
      refine ⟨rfl, rfl, dd, _, V.str (toS s), by rw [hd, ey]; rfl, e4, by simp [List.lookup], r2 _ H1 s1 (Vok.sc rfl rfl ?_)⟩
      simp only [Rp]
      exact ⟨trivial, os⟩
    | _ => exact r2.elim
/-! ### the suite, in the language's own words -/
def instA (j : Nat) : Ha → E
  | .var i => .var i
  | .cst d => .cst d
  | .isx b => .call (1000 + b) [.var j]
  | .nm => .call 999 [.var j]
def instE (j : Nat) : He → E
  | .a h => instA j h
  | .ors bs => .or (bs.map fun b => .call (1000 + b) [.var j])
  | .tup hs => .tup (hs.map (instA j))
def instH (j : Nat) : Hs → Sm
  | .asg i e => .asg i (instE j e)
  | .ifq l r i e => .ite (.cmp .eq (.var l) (instE j r)) [.asg i (instE j e)] []
def noJA (j : Nat) (M : List Nat) : Ha → Bool
  | .var i => decide (i ≠ j) && !M.contains i
  | _ => true
def noJE (j : Nat) (M : List Nat) : He → Bool
  | .a h => noJA j M h
  | .ors bs => !bs.isEmpty
  | .tup hs => hs.all (noJA j M)
def noJH (j : Nat) (M : List Nat) : Hs → Bool
  | .asg i e => decide (i ≠ j) && !M.contains i && noJE j M e
  | .ifq l r i e => noJA j M (.var l) && noJE j M r && (decide (i ≠ j) && !M.contains i && noJE j M e)
theorem nx_evHa (x : Xc) (ρ : Rho) (h : Ha) : NX (evHa x ρ h) := by
  cases h with
  | var i => simp only [evHa]; split <;> first | exact NX.ite NX.no (NX.ok _) | exact NX.no
  | cst d => exact NX.ok _
  | isx b => exact NX.ok _
  | nm => simp only [evHa]; split <;> first | exact NX.ok _ | exact NX.no
theorem nx_evHas (x : Xc) (ρ : Rho) : ∀ hs : List Ha, NX (evHas x ρ hs)
  | [] => NX.ok _
  | h :: r => NX.bind (nx_evHa x ρ h) fun _ => NX.bind (nx_evHas x ρ r) fun _ => NX.ok _
theorem nx_evHe (x : Xc) (ρ : Rho) (h : He) : NX (evHe x ρ h) := by
  cases h with
  | a h => exact nx_evHa x ρ h
  | ors bs => exact NX.ok _
  | tup hs => exact NX.bind (nx_evHas x ρ hs) fun _ => NX.ok _
theorem nx_exH (x : Xc) (h : Hs) (ρ : Rho) : NX (exH x h ρ) := by
  cases h with
  | asg i e => exact NX.bind (nx_evHe x ρ e) fun _ => NX.ok _
  | ifq l r i e => exact NX.bind (nx_evHa x ρ _) fun _ => NX.bind (nx_evHe x ρ r) fun _ => NX.bind (nx_cm _ _ _) fun q => NX.ite (NX.bind (nx_evHe x ρ e) fun _ => NX.ok _) (NX.ok _)
theorem nx_exHs (x : Xc) : ∀ (hs : List Hs) (ρ : Rho), NX (exHs x hs ρ)
  | [], _ => NX.ok _
  | h :: r, ρ => NX.bind (nx_exH x h ρ) fun ρ' => nx_exHs x r ρ'
section
variable {x : Xc} {a j : Nat} {y : Option (Nat × List Nat)}
theorem getD_set {ρ : Rho} {i : Nat} {d : D} (h : i ≠ j) : (setR ρ j d).getD i none = ρ.getD i none := by
  unfold setR
  rw [List.getD_eq_getElem?_getD, List.getD_eq_getElem?_getD, List.getElem?_set_ne (Ne.symm h)]
theorem getD_set_same {ρ : Rho} {d : D} (h : j < ρ.length) : (setR ρ j d).getD j none = some d := by
  unfold setR
  rw [List.getD_eq_getElem?_getD, List.getElem?_set_self h]; rfl
theorem bind_ok {α β : Type} {m : R α} {f : α → R β} {b : β} (h : (m >>= f) = .ok b) : ∃ a, m = .ok a ∧ f a = .ok b := by
  cases m with
  | ok a => exact ⟨a, rfl, h⟩
  | exc e => cases h
  | no => cases h
theorem ev_isxJ {b : Nat} {ρ : Rho} (hj : j < ρ.length) : ev (Fx x a y) (.call (1000 + b) [.var j]) (setR ρ j (.adr (1000000 + a) y)) = .ok (.bl (isaX x.cls b)) := by
  rw [ev_cal1]
  simp only [ev, getD_set_same hj, ofO, ok_bind, Fx, and_self, if_true]
  rw [if_neg (by omega), show 1000 + b - 1000 = b by omega]
theorem ev_instA {M : List Nat} {h : Ha} {ρ : Rho} {d : D} (hj : j < ρ.length) (hn : noJA j M h = true) (e : evHa x ρ h = .ok d) : ev (Fx x a y) (instA j h) (setR ρ j (.adr (1000000 + a) y)) = .ok d := by
  cases h with
  | var i =>
    simp only [noJA, Bool.and_eq_true, decide_eq_true_eq] at hn
    simp only [instA, ev]
    rw [getD_set hn.1]
    simp only [evHa] at e
    split at e
    · rename_i d' hd
      rw [hd]
      split at e
      · cases e
      · exact e
    · cases e
  | cst d' => exact e
  | isx b =>
    simp only [evHa] at e
    rw [← e]
    exact ev_isxJ hj
  | nm =>
    simp only [instA]
    rw [ev_cal1]
    simp only [ev, getD_set_same hj, ofO, ok_bind, Fx, and_self, if_true]
    exact e
theorem evs_instA {M : List Nat} {ρ : Rho} (hj : j < ρ.length) : ∀ {hs : List Ha} {ds : List D}, hs.all (noJA j M) = true → evHas x ρ hs = .ok ds → evs (Fx x a y) (hs.map (instA j)) (setR ρ j (.adr (1000000 + a) y)) = .ok ds
  | [], ds, _, e => by simp only [evHas] at e; cases e; simp only [List.map_nil, evs]
  | h :: r, ds, hn, e => by
    simp only [List.all_cons, Bool.and_eq_true] at hn
    simp only [evHas] at e
    obtain ⟨d, e1, e⟩ := bind_ok e
    obtain ⟨l, e2, e⟩ := bind_ok e
    cases e
    simp only [List.map_cons, evs, ev_instA hj hn.1 e1, evs_instA hj hn.2 e2, ok_bind]
theorem evOr_ors {ρ : Rho} (hj : j < ρ.length) : ∀ {bs : List Nat}, bs ≠ [] → evOr (Fx x a y) (bs.map fun b => .call (1000 + b) [.var j]) (setR ρ j (.adr (1000000 + a) y)) = .ok (bs.any (isaX x.cls))
  | [], h => absurd rfl h
  | [b], _ => by simp only [List.map_cons, List.map_nil, evOr, ev_isxJ hj, ok_bind, blO, List.any_cons, List.any_nil, Bool.or_false]
  | b :: b' :: r, _ => by
    have ih := evOr_ors hj (bs := b' :: r) (by simp)
    rw [List.map_cons] at ih
    simp only [List.map_cons, evOr, ev_isxJ hj, ok_bind, blO] at ih ⊢
    rw [ih]
    show _ = R.ok (isaX x.cls b || (b' :: r).any (isaX x.cls))
    cases isaX x.cls b with
    | true => rw [if_pos rfl, Bool.true_or]
    | false => rw [if_neg Bool.false_ne_true, Bool.false_or]
theorem ev_instE {M : List Nat} {h : He} {ρ : Rho} {d : D} (hj : j < ρ.length) (hn : noJE j M h = true) (e : evHe x ρ h = .ok d) : ev (Fx x a y) (instE j h) (setR ρ j (.adr (1000000 + a) y)) = .ok d := by
  cases h with
  | a h => exact ev_instA hj hn e
  | ors bs =>
    simp only [evHe] at e
    cases e
    simp only [instE, ev]
    rw [evOr_ors hj (by intro z; rw [z] at hn; cases hn)]
    rfl
  | tup hs =>
    simp only [evHe] at e
    obtain ⟨l, e1, e⟩ := bind_ok e
    cases e
    simp only [instE, ev, evs_instA hj hn e1, ok_bind]
theorem setR_comm {ρ : Rho} {i : Nat} {d d' : D} (h : i ≠ j) : setR (setR ρ j d) i d' = setR (setR ρ i d') j d := by
  unfold setR
  exact List.set_comm _ _ (Ne.symm h)
theorem exH_inst {W : Nat} {M : List Nat} {h : Hs} {ρ ρ' : Rho} (hj : j < ρ.length) (hn : noJH j M h = true) (e : exH x h ρ = .ok ρ') :
    ex (Fx x a y) W M (instH j h) (setR ρ j (.adr (1000000 + a) y)) = .ok (.nx (setR ρ' j (.adr (1000000 + a) y))) ∧ ρ'.length = ρ.length ∧ ρ'.getD j none = ρ.getD j none := by
  have asg : ∀ {i : Nat} {e : He} {d : D}, (decide (i ≠ j) && !M.contains i && noJE j M e) = true → evHe x ρ e = .ok d → ex (Fx x a y) W M (.asg i (instE j e)) (setR ρ j (.adr (1000000 + a) y)) = .ok (.nx (setR (setR ρ i d) j (.adr (1000000 + a) y))) ∧ (setR ρ i d).length = ρ.length ∧ (setR ρ i d).getD j none = ρ.getD j none := by
    intro i e d hn hd
    simp only [Bool.and_eq_true, decide_eq_true_eq, Bool.not_eq_true'] at hn
    refine ⟨?_, by simp [setR], getD_set (Ne.symm hn.1.1)⟩
    simp only [ex, ev_instE hj hn.2 hd, ok_bind, hn.1.2, Bool.false_and, Bool.false_eq_true, if_false]
    rw [setR_comm hn.1.1]
  cases h with
  | asg i e' =>
    simp only [exH] at e
    obtain ⟨d, e1, e⟩ := bind_ok e
    cases e
    exact asg hn e1
  | ifq l r i e' =>
    simp only [noJH, Bool.and_eq_true] at hn
    simp only [exH] at e
    obtain ⟨d1, e1, e⟩ := bind_ok e
    obtain ⟨d2, e2, e⟩ := bind_ok e
    obtain ⟨q, e3, e⟩ := bind_ok e
    have h1 := ev_instA (a := a) (y := y) (M := M) hj hn.1.1 e1
    have h2 := ev_instE (a := a) (y := y) (M := M) hj hn.1.2 e2
    simp only [instA] at h1
    have ht : tst (Fx x a y) (.cmp .eq (.var l) (instE j r)) (setR ρ j (.adr (1000000 + a) y)) = .ok q := by
      simp only [tst, h1, h2, ok_bind, e3]
    simp only [instH, ex, ht, ok_bind]
    cases q with
    | false =>
      cases e
      exact ⟨by simp only [Bool.false_eq_true, if_false, exs], rfl, rfl⟩
    | true =>
      simp only [if_true] at e ⊢
      obtain ⟨d, e4, e⟩ := bind_ok e
      cases e
      obtain ⟨z1, z2⟩ := asg (by simpa using hn.2) e4
      exact ⟨by simp only [exs, z1, ok_bind], z2⟩
theorem exHs_inst {W : Nat} {M : List Nat} : ∀ {hs : List Hs} {ρ ρ' : Rho}, j < ρ.length → hs.all (noJH j M) = true → exHs x hs ρ = .ok ρ' →
    exs (Fx x a y) W M (hs.map (instH j)) (setR ρ j (.adr (1000000 + a) y)) = .ok (.nx (setR ρ' j (.adr (1000000 + a) y))) ∧ ρ'.length = ρ.length ∧ ρ'.getD j none = ρ.getD j none
  | [], ρ, ρ', hj, _, e => by simp only [exHs] at e; cases e; exact ⟨by simp only [List.map_nil, exs], rfl, rfl⟩
  | h :: r, ρ, ρ', hj, hn, e => by
    simp only [List.all_cons, Bool.and_eq_true] at hn
    simp only [exHs] at e
    obtain ⟨ρ1, e1, e⟩ := bind_ok e
    obtain ⟨a1, a2, a3⟩ := exH_inst (a := a) (y := y) (W := W) hj hn.1 e1
    obtain ⟨b1, b2, b3⟩ := exHs_inst (W := W) (M := M) (by rw [a2]; exact hj) hn.2 e
    exact ⟨by simp only [List.map_cons, exs, a1, ok_bind, b1], b2.trans a2, b3.trans a3⟩
theorem env_unset {K : PySem.W.Frag} {H0 H : Hp} {Oc : Addr → Prop} {M : List Nat} {Ts : List (D × V)} {σ : L2.St} {ρ : Rho} {d : D} (env : EnvOk K H0 Oc M Ts σ H (setR ρ j d)) (hM : M.contains j = false) (hj : ρ.getD j none = none) : EnvOk K H0 Oc M Ts (σ.set j none) H ρ := by
  have ho := ow_set (Oc := Oc) (σ := σ) (x := none) hM
  have ne : ∀ {i : Nat}, M.contains i = true → i ≠ j := fun {i} h z => by rw [z, hM] at h; cases h
  refine ⟨by rw [List.length_set, env.len]; simp [setR], env.base, env.oc, fun i e hi => ?_, fun i a hi e => ?_, fun i l a hi hl e1 e2 => ?_, fun p hp => by rw [ho]; exact env.tmp p hp, env.tabs⟩
  · have hij : i ≠ j := fun z => by
      rw [z] at hi
      rw [List.getD_eq_getElem?_getD, hi] at hj
      cases hj
    rw [ho, List.getElem?_set_ne (Ne.symm hij)]
    refine env.val i e ?_
    unfold setR
    rw [List.getElem?_set_ne (Ne.symm hij)]
    exact hi
  · rw [List.getElem?_set_ne (Ne.symm (ne hi))] at e
    obtain ⟨z, d', hd⟩ := env.own i a hi e
    unfold setR at hd
    rw [List.getElem?_set_ne (Ne.symm (ne hi))] at hd
    exact ⟨z, d', hd⟩
  · rw [List.getElem?_set_ne (Ne.symm (ne hi))] at e1
    rw [List.getElem?_set_ne (Ne.symm (ne hl))] at e2
    exact env.dist i l a hi hl e1 e2
end
/-- what the suite may lean on -/
structure Hyp (L : List Nat) (x : Xc) (y : Option (Nat × List Nat)) (cls : Value) (d : Option Addr) : Prop where
  m : x.cls ∈ L
  c : cls = .ref (xC x.cls)
  d : d = y.map (·.1)
  s : ∀ s, x.arg = some (.str s) → okS s ∧ ∃ dd, y = some (dd, s)
def tTryB (c : Cn) (M : List Nat) (i f : Nat) (es : List E) (W : WX) : TS := fun N σ H => ∃ H0 Oc Ts ρ, EnvOk c.K H0 Oc M Ts σ H ρ ∧
  Run (evs c.F es ρ) (fun ds => Run (c.F f ds) (fun d => ∀ v H', Same H H' → Rp c.K H' (Ow Oc M σ) d v → N.nx (σ.set i (some v)) H') (fun x => ∀ cls da H', Same H H' → Frd H da → c.xr x cls da H' → W cls da σ H')) (fun _ => False)
theorem ps_tryD {k n i f j m : Nat} {es : List E} {hs : List Hs} {e0 : Expr} {xs : List Expr} {xi xf te nj : Str} {b0 : Stmt} {suite : List Stmt} {p1 p2 p3 p4 np pos' : Pos}
    (hK : X.K = c.K) (hst : X.stack = X.env :: X.outer) (hfr : X.env.frame = some X.env.locals) (nd : X.N.Nodup) (hj : X.N[j]? = some nj) (hln : X.env.kindOf nj = some .local) (hTE : Names X te (.ref (xC 0)))
    (hi : X.N[i]? = some xi) (hx : Loc X.env.scope xi) (hfn : X.fn xi = true ∨ X.env.scope.names.lookup xi = some .local) (hMi : M.contains i = false) (hMj : M.contains j = false) (hno : hs.all (noJH j M) = true)
    (hF : FnAt X.prog X.w X.mg X.base c k n f xf) (hr : Room k X.A) (hg : Gl X xf) (hn : es.length = n) (hxr : c.xr = xrP L) (hcl : ∀ b ∈ L, XcOk c.K ns b)
    (ha : ∀ pn xe, PA (X.tr pn xe) (e0 :: xs) (tAs c.q M es)) (hs0 : NoStar X e0) (hpl : (backTo p3 (starEach xs X.env)).any (·.1) = false)
    (hsu : ∀ (a : Addr) (oe : Obj) (pn : List (Addr × Obj)) (cls : Value) (d : Option Addr) (x : Xc) (y : Option (Nat × List Nat)), Hyp L x y cls d → Zc cls d oe → (∃ vs, oe.data = .fields vs) → PSs (X.suite a ((a, oe) :: pn)) (b0 :: suite) (tSsD (hcx c x a y) W M fr (hs.map (instH j)))) :
    PS X (.Try [.Assign [.Name xi p1] (.Call (.Name xf p2) (e0 :: xs) [] p3) p4] [.ExceptHandler (some (.Name te np)) (some nj) (b0 :: suite) pos'] [] [] pos) (tSD c W M fr (.tryA i f es j hs)) := by
  obtain ⟨⟨fa, fd, ps, h1, h2, h3, h4, h5⟩, db⟩ := hF
  rw [← hK] at h2 h3 h5
  let ts : Addr → Value → Option Addr → TS := fun a cls d D σ H => ∃ x y, Hyp L x y cls d ∧ tSsD (hcx c x a y) W M fr (hs.map (instH j)) D σ H
  have hb : ∀ (Wx : WX) (pn : List (Addr × Obj)) (xe : Value → Shared → Prop), Takes (X.tr pn xe) Wx → PassesOwn (model X.prog X.w) X.A X.env xe → PSs (X.tr pn xe) [.Assign [.Name xi p1] (.Call (.Name xf p2) (e0 :: xs) [] p3) p4] (tTryB c M i f es Wx) := by
    intro Wx pn xe tk _
    have he : PE (X.tr pn xe) (.Call (.Name xf p2) (e0 :: xs) [] p3) (tCallS (spD c n f) (WE Wx) (tAs c.q M es)) := pe_callS (X := X.tr pn xe) h5 hr hg h1 h2 h3 (fun σ => passAt tk σ) (ha pn xe) db (hs0 _) hpl
    refine pss_one ((ps_asg (X := X.tr pn xe) he (pg_name nd hi hx hfn) rfl rfl rfl).imp fun N σ H ⟨H0, Oc, Ts, ρ, env, r⟩ => ?_)
    refine ⟨H0, Oc, Ts, ρ, env, r.eq.mono (fun ds ⟨e, hd⟩ vs H1 s1 rs => ?_) (fun x z => z.elim)⟩
    exact ⟨_, ds, (env.same s1).alloc, (env.same s1).amb, rs, (evs_len e).trans hn, hd.mono (fun d k v H' s' rv hf => k v H' (s1.trans s') rv) (fun x z cls da H' s' fr xr => z cls da H' (s1.trans s') (fun d e => s1.free (fr d e)) xr)⟩
  have hsu' : ∀ (a : Addr) (oe : Obj) (cls : Value) (d : Option Addr) (pn : List (Addr × Obj)), Zc cls d oe → (∃ vs, oe.data = .fields vs) → PSs (X.suite a ((a, oe) :: pn)) (b0 :: suite) (ts a cls d) := fun a oe cls d pn hz hf =>
    ⟨fun pins s σ H D I h => by
      obtain ⟨x, y, hy, h⟩ := h
      exact (hsu a oe pn cls d x y hy hz hf).run pins s σ H D I h⟩
  refine ⟨fun pins s σ H N I z => ?_⟩
  refine (ps_try_as (i := j) (tb := tTryB c M i f es) (ts := ts) (Wout := fun _ _ _ _ => False) hst hfr nd hj hln hTE takes0 hb hsu').run pins s σ H N I ?_
  have hl : σ.length = X.N.length := I.len
  obtain ⟨H0, Oc, Ts, ρ, ho, env, r⟩ := z
  have hjl : j < ρ.length := by
    rw [← env.len, hl]
    exact (List.getElem?_eq_some_iff.mp hj).1
  simp only [ex, tryD] at r
  cases hjn : ρ.getD j none with
  | some d => rw [hjn] at r; exact r.elim
  | none =>
    rw [hjn] at r
    simp only [Option.isSome_none, Bool.false_eq_true, if_false] at r
    refine ⟨H0, Oc, Ts, ρ, env, ?_⟩
    cases hev : evs c.F es ρ with
    | no => rw [hev] at r; exact r.elim
    | exc x => rw [hev] at r; exact r.elim
    | ok ds =>
      rw [hev] at r
      dsimp only at r
      show Run (c.F f ds) _ _
      cases hf : c.F f ds with
      | no => rw [hf] at r; exact r.elim
      | ok d =>
        rw [hf] at r
        exact fun v H' s' rv => r _ H' ((env.same s').set hMi rv)
      | exc x =>
        rw [hf] at r
        obtain ⟨ρ', er, r⟩ := (Run.bind.mp r).nx (nx_exHs _ _ _)
        intro cls da H' s' hfd hq
        rw [hxr] at hq
        obtain ⟨hm, hc, hq⟩ := hq
        have hX := hcl x.cls hm
        refine ⟨true, by rw [hc, hK]; exact hX.te, fun _ a na => ?_, fun z => nomatch z⟩
        have env' := env.same s'
        have main : ∀ y : Option (Nat × List Nat), Hyp L x y cls da → (∀ p, y = some p → H' p.1 = some (.xd [(("name" : Str), V.str (toS p.2))])) → ts a cls da { nx := fun σ' H' => N.nx (σ'.set j none) H', rt := N.rt, bk := fun σ' H' => N.bk (σ'.set j none) H', ct := fun σ' H' => N.ct (σ'.set j none) H' } (σ.set j (some (.ref a))) H' := by
          intro y hy hdd
          obtain ⟨a1, a2, a3⟩ := exHs_inst (a := a) (y := y) (W := W) (M := M) hjl hno er
          refine ⟨x, y, hy, H0, Oc, Ts, setR ρ j (.adr (1000000 + a) y), ho, env'.set hMj ?_, ?_⟩
          · simp only [Rp]
            rw [adOf_ex]
            refine ⟨rfl, fun p hp => ⟨fun zo => ?_, hdd p hp⟩⟩
            exact env.alloc _ zo (hfd p.1 (by rw [hy.d, hp]; rfl))
          · show Run (exs (Fx x a y) W M (hs.map (instH j)) _) _ _
            rw [a1]
            intro σ' H'' env2
            exact r _ H'' (env_unset env2 hMj (a3.trans hjn))
        rcases hq with ⟨q1, q2, q3⟩ | ⟨s, dd, q1, q2, q3, q4, q5⟩
        · exact main none ⟨hm, hc, q3, fun s e => by rw [q1] at e; cases e⟩ (fun p e => nomatch e)
        · refine main (some (dd, s)) ⟨hm, hc, q4, fun s' e => ?_⟩ (fun p e => by cases e; exact q5)
          rw [q2] at e
          cases e
          exact ⟨q3, dd, rfl⟩
/-! ### defs as values -/
theorem pe_fnvD {f : Nat} {x : Str} {p : Pos} (hf : f < 1000000) (hg : Gl X x) (hm : X.mg x = some (.ref (Pw.fa f))) (hdb : (x == ("__debug__" : Str)) = false) : PE X (.Name x p) (tE c M (.fnv f)) := by
  refine (pe_glob hg hm (v := .ref (Pw.fa f)) rfl hdb).imp fun σ H Q ⟨H0, Oc, Ts, ρ, env, r⟩ => ?_
  simp only [ev, if_pos hf] at r
  refine r _ H (Same.refl H) (Vok.sc rfl rfl ?_)
  simp only [Rp]
  refine ⟨?_, fun p e => nomatch e⟩
  unfold adOf
  rw [if_neg (by omega)]
theorem pe_calvD {i k : Nat} {x : Str} {e0 : Expr} {xs : List Expr} {ces : List E} {p p3 : Pos} {dom : Nat → Option (Nat × Str)} (hK : X.K = c.K) (hF : ∀ f n y, dom f = some (n, y) → FnAt X.prog X.w X.mg X.base c k n f y ∧ X.mg y = some (.ref (Pw.fa f))) (hd : ∀ f ds, f < 1000000 → f ≠ 999999 → (∀ n y, dom f = some (n, y) → ds.length ≠ n) → c.F f ds = .no) (hdn : dom 999999 = none) (hcl : (∀ ds, c.F 999999 ds = .no) ∨ CloP X.prog X.w X.mg X.base c k) (hr : Room k X.A)
    (hN : X.N[i]? = some x) (hv : Vis X.env.scope x) (hdb : (x == ("__debug__" : Str)) = false) (hcd : (x == ("__classdict__" : Str)) = false) (hp : Passes (L2.CX X.prog X.w) X c.wish) (ha : PA X (e0 :: xs) (tAs c M ces)) (hs0 : NoStar X e0) (hpl : (backTo p3 (starEach xs X.env)).any (·.1) = false) :
    PE X (.Call (.Name x p) (e0 :: xs) [] p3) (tE c M (.calv i ces)) := by
  refine ⟨fun pins s σ H Q I z => ?_⟩
  obtain ⟨H0, Oc, Ts, ρ, env, r⟩ := z
  simp only [ev] at r
  cases hg : ρ.getD i none with
  | none => rw [hg] at r; exact r.elim
  | some d =>
    rw [hg] at r
    cases d with
    | adr f y =>
      dsimp only at r
      by_cases hf : f < 1000000
      · rw [if_pos hf] at r
        cases hev : evs c.F ces ρ with
        | no => rw [hev] at r; exact r.elim
        | exc x => rw [hev] at r; exact r.elim
        | ok ds =>
          rw [hev] at r
          dsimp only at r
          by_cases h9 : f = 999999
          · subst h9
            rcases hcl with hno | ⟨n, dn, nx9, fnat, hrun⟩
            · rw [hno] at r; exact r.elim
            · by_cases hl : ds.length = n
              · obtain ⟨v, hs, hv1, hv2⟩ := env.val i _ (getD_some hg)
                have ev' : v = .ref (Pw.fa 999999) := by
                  have hrb : Rb c.K H (Ow Oc M σ) (.adr 999999 y) v := by
                    cases hM : M.contains i with
                    | false => exact (hv1 hM).b
                    | true => exact absurd (hv2 hM).2 (by simp [D.mut])
                  rw [rb_adr hrb]
                  unfold adOf
                  rw [if_neg (by omega)]
                rw [ev'] at hs
                refine wpAny_Call_Name_kw (thn ((pe_var (pos := p) hN hv hdb hcd).run pins s σ H (fun v H1 => v = .ref (Pw.fa 999999) ∧ H1 = H) I ⟨_, hs, rfl, rfl⟩) fun u s1 ⟨v1, H1, I1, r1, q1⟩ => ?_)
                obtain ⟨rfl, rfl⟩ := q1
                cases r1
                refine PySem.W.callWith_F (first := []) (fnat _ _ I1.hok env.amb) (thn (ha.run p3 pins s1 σ _ (fun vs H2 => Same H1 H2 ∧ Rps c.K H2 (Ow Oc M σ) ds vs) I1 ⟨H0, Oc, Ts, ρ, env, by rw [hev]; exact fun vs H2 s2 rs => ⟨s2, rs⟩⟩) fun us s2 ⟨vs, H2, I2, rv, q2, q3⟩ => ⟨fnat _ _ I2.hok (env.same q2).amb, ?_⟩) (hs0 _) hpl
                show wpAny _ _ (call _ us) _ _ _
                have r9 : Run (c.F 999999 ds) (fun d => ∀ v H', Same H2 H' → Rp c.K H' (Ow Oc M σ) d v → (c.frf 999999 = true → d.mut = true → NwT c.K H2 H' (Ow Oc M σ) d v) → Q v H') (fun x => ∀ cls da H', Same H2 H' → Frd H2 da → c.xr x cls da H' → False) := by
                  cases hf9 : c.F 999999 ds with
                  | no => rw [hf9] at r; exact r.elim
                  | exc x => exact absurd hf9 (nx9 ds x)
                  | ok d =>
                    rw [hf9] at r
                    exact fun v H' s' rv _ => r v H' (q2.trans s') (Vok.pl rfl rfl rv)
                have e2 := I2.env0
                rw [hK] at e2
                have z := hrun X.A X.stack s2 H2 us vs Q hr e2 rv ⟨_, ds, (env.same q2).alloc, (env.same q2).amb, q3, hl, r9⟩
                refine wpAny_call (codeAny_mono z fun rr s' hq => ?_)
                cases rr with
                | error e =>
                  obtain ⟨_, _, _, _, _, _, _, _, _, _, _, _, zz⟩ := hq
                  exact zz.elim
                | ok fl =>
                  cases fl with
                  | ret u => exact I2.after hq
                  | next => exact False.elim hq
                  | brk => exact False.elim hq
                  | cont => exact False.elim hq
              · rw [dn ds hl] at r; exact r.elim
          by_cases hq : ∃ n yn, dom f = some (n, yn) ∧ ds.length = n
          · obtain ⟨n, yn, e1, e2⟩ := hq
            obtain ⟨⟨⟨fa, fd, ps, h1, h2, h3, h4, h5⟩, db⟩, hm⟩ := hF f n yn e1
            rw [← hK] at h2 h3 h5
            have ea : fa = Pw.fa f := by
              rw [hm] at h1
              cases h1; rfl
            obtain ⟨v, hs, hv1, hv2⟩ := env.val i _ (getD_some hg)
            have ev' : v = .ref fa := by
              have hrb : Rb c.K H (Ow Oc M σ) (.adr f y) v := by
                cases hM : M.contains i with
                | false => exact (hv1 hM).b
                | true => exact absurd (hv2 hM).2 (by simp [D.mut])
              rw [rb_adr hrb, ea]
              unfold adOf
              rw [if_neg (by omega)]
            rw [ev'] at hs
            refine (pe_callL (i := i) (f := fa) (dvs := []) (E := c.wish) h5 hr hN hv h2 h3 .nil hp ha hdb hcd (hs0 _) hpl).run pins s σ H Q I ⟨hs, H0, Oc, Ts, ρ, env, ?_⟩
            rw [hev]
            intro vs H1 s1 rs
            show spD c n f (vs ++ []) H1 Q c.wish
            rw [List.append_nil]
            exact ⟨_, ds, (env.same s1).alloc, (env.same s1).amb, rs, e2, r.mono (fun d k v H' s' rv hf => k v H' (s1.trans s') (Vok.pl rfl rfl rv)) fun x z => XW.mono s1 z⟩
          · have no := hd f ds hf h9 (fun n y e h => hq ⟨n, y, e, h⟩)
            rw [no] at r
            exact r.elim
      · rw [if_neg hf] at r; exact r.elim
    | _ => exact r.elim
end
end MT
end
section
set_option Elab.async false
set_option linter.all false
set_option maxRecDepth 100000
set_option maxHeartbeats 4000000
/-! MtX: sets out of lists and tuples, and what sorted makes of them. -/
namespace MT
open PySem PySem.Spec L2 PyProof.Rows
theorem paired_perm {α β : Type} {F : α → β → Prop} {l l' : List α} (p : l'.Perm l) : ∀ {m : List β}, Paired F l m → ∃ m', Paired F l' m' ∧ m'.Perm m := by
  induction p with
  | nil => intro m h; exact ⟨m, h, .refl _⟩
  | cons a _ ih =>
    intro m h
    cases h with
    | cons h1 h2 =>
      obtain ⟨m', g1, g2⟩ := ih h2
      exact ⟨_, .cons h1 g1, g2.cons _⟩
  | swap a b l =>
    intro m h
    cases h with
    | cons h1 h2 =>
      cases h2 with
      | cons h2 h3 => exact ⟨_, .cons h2 (.cons h1 h3), List.Perm.swap _ _ _⟩
  | trans _ _ ih1 ih2 =>
    intro m h
    obtain ⟨m1, g1, g2⟩ := ih2 h
    obtain ⟨m2, g3, g4⟩ := ih1 g1
    exact ⟨m2, g3, g4.trans g2⟩
/-- the empty set's object -/
abbrev set0 (w : World) : Obj := { cls := .type "set", dict := none, data := .set #[] 0 (.fresh 0 0 (!w.params.followText "set-order")) }
/-- a kind of sets: what is known of one at S, while what stood in h0 stands -/
structure SetKd (P : Program) (w : World) (S : Addr) (h0 : Heap) (N : Nat) (α β : Type) where
  key : α → β
  R : Heap → List α → Prop
  Is : α → Value → Prop
  keep : ∀ h h' L, R h L → (∀ o, h.get? S = some o → h'.get? S = some o) → (∀ b o, h0.get? b = some o → h'.get? b = some o) → R h' L
  new : ∀ h, h.get? S = some (set0 w) → R h []
  nd : ∀ h L, R h L → (L.map key).Nodup
  add : ∀ (A : Around) (E : Value → Shared → Prop) (s : Shared) (L : List α) (x : α) (v : Value) (Q : Bool → Shared → Prop), A.units < cLine → (∀ b o, h0.get? b = some o → s.heap.get? b = some o) → R s.heap L → Is x v → L.length < N →
    (∀ b h' tk L', Heap.SameBut S s.heap h' → s.toks ≤ tk → R h' L' → (key x ∈ L.map key → L' = L) → (key x ∉ L.map key → L'.Perm (x :: L)) → Q b { s with heap := h', toks := tk }) → wpAny (model P w) A (setAdd S v) Q E s
/-- what the set has out of the first i -/
structure Has {α β : Type} (key : α → β) (xs : List α) (i : Nat) (L : List α) : Prop where
  sub : ∀ x ∈ L, x ∈ xs.take i
  all : ∀ x ∈ xs.take i, key x ∈ L.map key
theorem Has.zero {α β : Type} (key : α → β) (xs : List α) : Has key xs 0 [] := ⟨fun _ h => (nomatch h), fun _ h => by simp at h⟩
theorem Has.next {α β : Type} {key : α → β} {xs L L' : List α} {i : Nat} {x : α} (g : Has key xs i L) (h : xs[i]? = some x) (c1 : key x ∈ L.map key → L' = L) (c2 : key x ∉ L.map key → L'.Perm (x :: L)) : Has key xs (i + 1) L' := by
  have ht : xs.take (i + 1) = xs.take i ++ [x] := by rw [List.take_add_one, h]; rfl
  by_cases c : key x ∈ L.map key
  · rw [c1 c]
    refine ⟨fun y hy => by rw [ht]; exact List.mem_append_left _ (g.sub y hy), fun y hy => ?_⟩
    rw [ht] at hy
    rcases List.mem_append.mp hy with z | z
    · exact g.all y z
    · have : y = x := by simpa using z
      rw [this]; exact c
  · have p := c2 c
    refine ⟨fun y hy => ?_, fun y hy => ?_⟩
    · rw [ht]
      rcases List.mem_cons.mp (p.mem_iff.mp hy) with z | z
      · rw [z]; simp
      · exact List.mem_append_left _ (g.sub y z)
    · rw [ht] at hy
      refine (p.map key).mem_iff.mpr ?_
      rcases List.mem_append.mp hy with z | z
      · exact List.mem_cons_of_mem _ (g.all y z)
      · have : y = x := by simpa using z
        rw [this]; exact List.mem_cons_self
section
variable {P : Program} {w : World} {A : Around} {E : Value → Shared → Prop} {s : Shared}
/-- the loop of set.update, for any kind -/
theorem upd_loop {α β : Type} {S I : Addr} {fp wr : List Addr} {G : Array GenState → Array GenState → Prop} {n N : Nat} {Pv : Nat → Value → Prop} {St : Nat → Shared → Prop} {R : Result → Shared → Prop} {h0 : Heap}
    (W : WalksS P w A.in1 I fp wr G n Pv St) (hSf : S ∉ fp) (kd : SetKd P w S h0 N α β) (xs : List α) (hn : n = xs.length) (hval : ∀ i v, Pv i v → ∃ x, xs[i]? = some x ∧ kd.Is x v)
    (hfew : ∀ L : List α, (L.map kd.key).Nodup → (∀ x ∈ L, x ∈ xs) → L.length < N) (hS0 : h0.get? S = none) (hw0 : ∀ b ∈ wr, h0.get? b = none) (hu : A.in1.units < cLine) :
    ∀ (m i : Nat) (s : Shared), n - i = m → i ≤ n → St i s → (∀ b o, h0.get? b = some o → s.heap.get? b = some o) → (∃ L, kd.R s.heap L ∧ Has kd.key xs i L) →
      (∀ s' L, Moved (S :: wr) G s s' → kd.R s'.heap L → Has kd.key xs n L → (∀ b o, h0.get? b = some o → s'.heap.get? b = some o) → R (.ok (.ret .none)) s') →
      codeAny (model P w) A (.builtin "set.update.loop" ⟨[.ref S, .ref I], []⟩) R s := by
  have hSw : S ∉ wr := fun z => hSf (W.sub _ z)
  have hin : ∀ b ∈ wr, b ∈ S :: wr := fun b z => List.mem_cons_of_mem _ z
  have kept : ∀ {s s' : Shared}, Moved wr G s s' → (∀ b o, h0.get? b = some o → s.heap.get? b = some o) → ∀ b o, h0.get? b = some o → s'.heap.get? b = some o := fun mv kp b o e =>
    mv.heap b o (fun z => by rw [hw0 b z] at e; cases e) (kp b o e)
  intro m
  induction m with
  | zero =>
    intro i s hm hi st kp ⟨L, hL, g⟩ hR
    have e : i = n := by omega
    subst e
    refine codeAny_builtin F.entry_set_update_loop ?_
    rw [Around.under_plainId F.plain_set_update_loop _]
    show wpAny _ A.in1 (pyNext (.ref I) >>= _) _ _ s
    refine wpAny_bind (W.done s _ _ st fun s' mv => ?_)
    show wpAny _ A.in1 (ret Value.none) _ _ s'
    have kp' := kept mv kp
    exact wpAny_pure (hR s' L (mv.mono hin) (kd.keep _ _ L hL (fun o q => mv.heap S o hSw q) kp') g kp')
  | succ m ih =>
    intro i s hm hi st kp ⟨L, hL, g⟩ hR
    have hlt : i < n := by omega
    refine codeAny_builtin F.entry_set_update_loop ?_
    rw [Around.under_plainId F.plain_set_update_loop _]
    show wpAny _ A.in1 (pyNext (.ref I) >>= _) _ _ s
    refine wpAny_bind (W.item i s _ _ hlt st fun v s' hP st' mv => ?_)
    obtain ⟨x, hx, hv⟩ := hval i v hP
    have kp' := kept mv kp
    have hL' := kd.keep _ _ L hL (fun o q => mv.heap S o hSw q) kp'
    show wpAny _ A.in1 (holding [v] (setAdd S v) >>= _) _ _ s'
    refine wpAny_bind (wpAny_holding ?_)
    refine kd.add A.in1 _ s' L x v _ hu kp' hL' hv (hfew L (kd.nd _ _ hL) fun y hy => List.mem_of_mem_take (g.sub y hy)) fun b h' tk L' sb ht hL2 c1 c2 => ?_
    have kp2 : ∀ b o, h0.get? b = some o → h'.get? b = some o := fun b o q => (sb.2 b (fun z => by rw [z, hS0] at q; cases q)).trans (kp' b o q)
    refine wpAny_pure ⟨plainId_quiet F.plain_set_update_loop _, ih (i + 1) _ (by omega) hlt (W.frame _ s' _ _ st' ht fun b hb o q => ?_) kp2 ⟨L', hL2, g.next hx c1 c2⟩ fun s2 L3 mv2 hL3 g3 kp3 => ?_⟩
    · rw [sb.2 b (fun z : b = S => hSf (by rw [← z]; exact hb))]; exact q
    · refine hR s2 L3 (Moved.trans W.gtrans ((mv.mono hin).then_heap ht fun b o hb q => ?_) mv2) hL3 g3 kp3
      rw [sb.2 b (fun z : b = S => hb (by rw [z]; exact List.mem_cons_self))]; exact q

/-- set(xs) of a list, for any kind -/
theorem mk_set_list {α β : Type} {N : Nat} {l : Addr} {items : Array Value} (xs : List α) {Q : Value → Shared → Prop} (kd : SetKd P w s.heap.objs.size s.heap N α β) (hh : A.handled = none) (hl : s.heap.IsList l items) (hsz : items.size = xs.length)
    (hit : ∀ (i : Nat) (v : Value), items[i]? = some v → ∃ x, xs[i]? = some x ∧ kd.Is x v) (hfew : ∀ L : List α, (L.map kd.key).Nodup → (∀ x ∈ L, x ∈ xs) → L.length < N) (hu : A.units + 3 < cLine)
    (h : ∀ (h' : Heap) (tk : Nat) (L : List α), kd.R h' L → Has kd.key xs xs.length L → (∀ b o, s.heap.get? b = some o → h'.get? b = some o) → Q (.ref s.heap.objs.size) { s with heap := h', toks := tk }) :
    wpAny (model P w) A (call (.type "set") [.ref l]) Q E s := by
  obtain ⟨c, tl, mro⟩ := F.called_set.mro
  have made := F.called_set.made
  have subt := F.called_set.sub
  refine wpAny_call (codeAny_of_tree ?_)
  show wpAny _ _ (callAny (.type "set") _) _ _ _
  refine wpAny_pure ⟨Code.quiet_builtin _ (by decide +kernel), codeAny_builtin F.entry_type_call ?_⟩
  rw [Around.under_plain (weight_type_call_type "set" [.ref l] []) rfl]
  have z1 := F.called_set.notType
  have z2 := F.called_set.canCreate
  have z3 := F.typeCall_set_1 (.ref l)
  repeat (any_goals (first | assumption | wp_step))
  refine codeAny_mono (code_set_led1 (.ref l) (E := E) (Q₁ := fun ob t => ob = .ref s.heap.objs.size ∧ t = { s with heap := s.heap.push (set0 w) }) ⟨rfl, rfl⟩) fun r t hr => ?_
  cases r with
  | error e => exact hr
  | ok fl =>
    cases fl with
    | ret ob =>
      obtain ⟨rfl, rfl⟩ := hr
      have aS : (s.heap.push (set0 w)).get? s.heap.objs.size = some (set0 w) := Heap.get?_push_size _ rfl
      have tS : Shared.TypeIs { s with heap := s.heap.push (set0 w) } (.ref s.heap.objs.size) "set" := ⟨_, aS, rfl⟩
      have y1 := F.called_set.init.lookup
      have y2 := F.called_set.init.bind (.ref s.heap.objs.size)
      repeat (any_goals (first | assumption | wp_step))
      refine codeAny_mono (codeAny_call_builtin (R := wants (fun r t => r = .none ∧ ∃ h' tk L, t = { s with heap := h', toks := tk } ∧ kd.R h' L ∧ Has kd.key xs xs.length L ∧ ∀ b o, s.heap.get? b = some o → h'.get? b = some o) E) F.called_set.init.plain F.entry_set_init (check_set_init_1 tS ?_)) fun r2 t2 hr2 => ?_
      · obtain ⟨ol, hol, hcl, nl, hdl⟩ := hl
        obtain ⟨oc, od, oda, osl⟩ := ol
        simp only at hcl hdl
        subst hcl hdl
        have hol' : (s.heap.push (set0 w)).get? l = some { cls := .type "list", dict := od, data := .seq items nl, slots := osl } := Heap.get?_push_of_some _ hol
        have x1 := F.sub_list_set
        have x2 := F.sub_list_frozenset
        have x3 : (Value.type "list" == Value.type "dict") = false := by decide
        have hl1 : (s.heap.push (set0 w)).IsList l items := ⟨_, hol', rfl, nl, rfl⟩
        unfold Builtin.«set.__init__» noKeywords Builtin.Frozenset.updateFrom
        generalize hPI : pyIter = PI
        wp_walk
        subst hPI
        refine wpAny_pyIter_list hl1 ?_
        refine wpAny_bind (wpAny_runValue ?_)
        have lS : l < s.heap.objs.size := Heap.lt_size hol
        have h3 : A.in1.in1.in1.handled = none := by simp [hh]
        have neI : l ≠ (s.heap.push (set0 w)).objs.size := by rw [Heap.size_push]; exact Nat.ne_of_lt (Nat.lt_succ_of_lt lS)
        have hSf : s.heap.objs.size ∉ [(s.heap.push (set0 w)).objs.size, l] := by
          rw [Heap.size_push]
          simp only [List.mem_cons, List.mem_singleton, List.not_mem_nil, or_false, not_or]
          exact ⟨Nat.ne_of_lt (Nat.lt_succ_self _), Nat.ne_of_gt lS⟩
        have no : ∀ b, s.heap.objs.size ≤ b → s.heap.get? b = none := fun b hb => by
          cases q : s.heap.get? b with
          | none => rfl
          | some o => exact absurd (Nat.lt_of_lt_of_le (Heap.lt_size q) hb) (Nat.lt_irrefl _)
        refine upd_loop ((Walks.list h3 _ l neI items).toS) hSf kd xs hsz hit hfew (no _ (Nat.le_refl _)) (fun b hb => no b (by rw [List.mem_singleton.mp hb, Heap.size_push]; exact Nat.le_succ _)) hu (items.size - 0) 0 _ (by omega) (Nat.zero_le _)
          ⟨⟨_, Heap.get?_push_size _ rfl, rfl, rfl⟩, (hl1.push _)⟩ (fun b o e => Heap.get?_push_of_some _ (Heap.get?_push_of_some _ e)) ⟨[], kd.new _ (Heap.get?_push_of_some _ aS), Has.zero _ _⟩ ?hR
        case hR =>
          intro s' L mv hL g kp
          obtain ⟨h', g2, d', tk', os'⟩ := s'
          have e1 : g2 = s.gens := mv.gens
          have e2 : d' = s.drawn := mv.drawn
          have e3 : os' = s.os := mv.os
          subst e1 e2 e3
          show wpAny _ _ _ _ _ _
          refine wpAny_pure ?_
          show wpAny _ _ (ret Value.none) _ _ _
          rw [hsz] at g
          exact wpAny_pure ⟨rfl, h', tk', L, rfl, hL, g, kp⟩
      · cases r2 with
        | error e => exact hr2
        | ok f2 =>
          cases f2 with
          | ret r =>
            obtain ⟨rfl, h', tk, L, rfl, hL, g, kp⟩ := hr2
            repeat (any_goals (first | assumption | wp_step))
            exact h _ _ _ hL g kp
          | _ => exact hr2.elim
    | _ => exact hr.elim

/-- set(xs) of a tuple, for any kind -/
theorem mk_set_tuple {α β : Type} {N : Nat} {l : Addr} {items : Array Value} (xs : List α) {Q : Value → Shared → Prop} (kd : SetKd P w s.heap.objs.size s.heap N α β) (hh : A.handled = none) (hl : s.heap.IsTuple l items) (hsz : items.size = xs.length)
    (hit : ∀ (i : Nat) (v : Value), items[i]? = some v → ∃ x, xs[i]? = some x ∧ kd.Is x v) (hfew : ∀ L : List α, (L.map kd.key).Nodup → (∀ x ∈ L, x ∈ xs) → L.length < N) (hu : A.units + 3 < cLine)
    (h : ∀ (h' : Heap) (tk : Nat) (L : List α), kd.R h' L → Has kd.key xs xs.length L → (∀ b o, s.heap.get? b = some o → h'.get? b = some o) → Q (.ref s.heap.objs.size) { s with heap := h', toks := tk }) :
    wpAny (model P w) A (call (.type "set") [.ref l]) Q E s := by
  obtain ⟨c, tl, mro⟩ := F.called_set.mro
  have made := F.called_set.made
  have subt := F.called_set.sub
  refine wpAny_call (codeAny_of_tree ?_)
  show wpAny _ _ (callAny (.type "set") _) _ _ _
  refine wpAny_pure ⟨Code.quiet_builtin _ (by decide +kernel), codeAny_builtin F.entry_type_call ?_⟩
  rw [Around.under_plain (weight_type_call_type "set" [.ref l] []) rfl]
  have z1 := F.called_set.notType
  have z2 := F.called_set.canCreate
  have z3 := F.typeCall_set_1 (.ref l)
  repeat (any_goals (first | assumption | wp_step))
  refine codeAny_mono (code_set_led1 (.ref l) (E := E) (Q₁ := fun ob t => ob = .ref s.heap.objs.size ∧ t = { s with heap := s.heap.push (set0 w) }) ⟨rfl, rfl⟩) fun r t hr => ?_
  cases r with
  | error e => exact hr
  | ok fl =>
    cases fl with
    | ret ob =>
      obtain ⟨rfl, rfl⟩ := hr
      have aS : (s.heap.push (set0 w)).get? s.heap.objs.size = some (set0 w) := Heap.get?_push_size _ rfl
      have tS : Shared.TypeIs { s with heap := s.heap.push (set0 w) } (.ref s.heap.objs.size) "set" := ⟨_, aS, rfl⟩
      have y1 := F.called_set.init.lookup
      have y2 := F.called_set.init.bind (.ref s.heap.objs.size)
      repeat (any_goals (first | assumption | wp_step))
      refine codeAny_mono (codeAny_call_builtin (R := wants (fun r t => r = .none ∧ ∃ h' tk L, t = { s with heap := h', toks := tk } ∧ kd.R h' L ∧ Has kd.key xs xs.length L ∧ ∀ b o, s.heap.get? b = some o → h'.get? b = some o) E) F.called_set.init.plain F.entry_set_init (check_set_init_1 tS ?_)) fun r2 t2 hr2 => ?_
      · obtain ⟨ol, hol, hcl, nl, hdl⟩ := hl
        obtain ⟨oc, od, oda, osl⟩ := ol
        simp only at hcl hdl
        subst hcl hdl
        have hol' : (s.heap.push (set0 w)).get? l = some { cls := .type "tuple", dict := od, data := .seq items nl, slots := osl } := Heap.get?_push_of_some _ hol
        have x1 := F.sub_tuple_set
        have x2 := F.sub_tuple_frozenset
        have x3 : (Value.type "tuple" == Value.type "dict") = false := by decide
        have hl1 : (s.heap.push (set0 w)).IsTuple l items := ⟨_, hol', rfl, nl, rfl⟩
        unfold Builtin.«set.__init__» noKeywords Builtin.Frozenset.updateFrom
        generalize hPI : pyIter = PI
        wp_walk
        subst hPI
        refine wpAny_pyIter_tuple hl1 ?_
        refine wpAny_bind (wpAny_runValue ?_)
        have lS : l < s.heap.objs.size := Heap.lt_size hol
        have h3 : A.in1.in1.in1.handled = none := by simp [hh]
        have neI : l ≠ (s.heap.push (set0 w)).objs.size := by rw [Heap.size_push]; exact Nat.ne_of_lt (Nat.lt_succ_of_lt lS)
        have hSf : s.heap.objs.size ∉ [(s.heap.push (set0 w)).objs.size, l] := by
          rw [Heap.size_push]
          simp only [List.mem_cons, List.mem_singleton, List.not_mem_nil, or_false, not_or]
          exact ⟨Nat.ne_of_lt (Nat.lt_succ_self _), Nat.ne_of_gt lS⟩
        have no : ∀ b, s.heap.objs.size ≤ b → s.heap.get? b = none := fun b hb => by
          cases q : s.heap.get? b with
          | none => rfl
          | some o => exact absurd (Nat.lt_of_lt_of_le (Heap.lt_size q) hb) (Nat.lt_irrefl _)
        refine upd_loop ((Walks.tuple h3 _ l neI items).toS) hSf kd xs hsz hit hfew (no _ (Nat.le_refl _)) (fun b hb => no b (by rw [List.mem_singleton.mp hb, Heap.size_push]; exact Nat.le_succ _)) hu (items.size - 0) 0 _ (by omega) (Nat.zero_le _)
          ⟨⟨_, Heap.get?_push_size _ rfl, rfl, rfl⟩, (hl1.push _)⟩ (fun b o e => Heap.get?_push_of_some _ (Heap.get?_push_of_some _ e)) ⟨[], kd.new _ (Heap.get?_push_of_some _ aS), Has.zero _ _⟩ ?hR
        case hR =>
          intro s' L mv hL g kp
          obtain ⟨h', g2, d', tk', os'⟩ := s'
          have e1 : g2 = s.gens := mv.gens
          have e2 : d' = s.drawn := mv.drawn
          have e3 : os' = s.os := mv.os
          subst e1 e2 e3
          show wpAny _ _ _ _ _ _
          refine wpAny_pure ?_
          show wpAny _ _ (ret Value.none) _ _ _
          rw [hsz] at g
          exact wpAny_pure ⟨rfl, h', tk', L, rfl, hL, g, kp⟩
      · cases r2 with
        | error e => exact hr2
        | ok f2 =>
          cases f2 with
          | ret r =>
            obtain ⟨rfl, h', tk, L, rfl, hL, g, kp⟩ := hr2
            repeat (any_goals (first | assumption | wp_step))
            exact h _ _ _ hL g kp
          | _ => exact hr2.elim
    | _ => exact hr.elim

end
end MT
end
section
set_option Elab.async false
set_option linter.all false
set_option maxRecDepth 100000
set_option maxHeartbeats 4000000
/-! Mt2: sorted of tuples that are led by texts. -/
namespace MT
open PySem PySem.Spec L2 PyProof.Rows
/-! ### the order of rows of texts -/
theorem ltS_self (x : List Nat) : ltS x x = false := by
  induction x with
  | nil => rfl
  | cons a r ih => simp [ltS, ih]
theorem leS_refl (x : List Nat) : leS x x := ltS_self x
def leL (a b : List (List Nat)) : Prop := ltL b a = false
theorem leL_cons (x y : List Nat) (r q : List (List Nat)) : leL (x :: r) (y :: q) ↔ leS x y ∧ (x = y → leL r q) := by
  unfold leL leS
  simp only [ltL]
  cases h : ltS y x with
  | true => simp
  | false =>
    by_cases e : y = x
    · subst e; simp
    · have e' : ¬ x = y := fun z => e z.symm
      simp [e, e']
theorem leL_trans : ∀ {a b c : List (List Nat)}, leL a b → leL b c → leL a c
  | [], _, [], _, _ => rfl
  | [], _, _ :: _, _, _ => rfl
  | _ :: _, [], _, h, _ => by cases h
  | _ :: _, _ :: _, [], _, h => by cases h
  | x :: r, y :: q, z :: p, h1, h2 => by
    rw [leL_cons] at h1 h2 ⊢
    refine ⟨leS_trans h1.1 h2.1, fun e => ?_⟩
    subst e
    have e := leS_anti h1.1 h2.1
    exact leL_trans (h1.2 e) (h2.2 e.symm)
theorem leL_anti : ∀ {a b : List (List Nat)}, leL a b → leL b a → a = b
  | [], [], _, _ => rfl
  | [], _ :: _, _, h => by cases h
  | _ :: _, [], h, _ => by cases h
  | x :: r, y :: q, h1, h2 => by
    rw [leL_cons] at h1 h2
    have e := leS_anti h1.1 h2.1
    rw [e, leL_anti (h1.2 e) (h2.2 e.symm)]
theorem ltL_le : ∀ {a b : List (List Nat)}, ltL a b = true → leL a b
  | [], [], h => by cases h
  | [], _ :: _, _ => rfl
  | _ :: _, [], h => by cases h
  | x :: r, y :: q, h => by
    rw [leL_cons]
    simp only [ltL] at h
    cases hs : ltS x y with
    | true =>
      refine ⟨leS_of hs, fun e => ?_⟩
      subst e
      rw [ltS_self] at hs; cases hs
    | false =>
      rw [hs] at h
      by_cases e : x = y
      · subst e
        simp at h
        exact ⟨leS_refl x, fun _ => ltL_le h⟩
      · simp [e] at h
theorem insL_perm (x : List (List Nat)) : ∀ l, (insL x l).Perm (x :: l)
  | [] => .refl _
  | y :: r => by
    unfold insL
    split
    · exact (List.Perm.cons y (insL_perm x r)).trans (List.Perm.swap x y r)
    · exact .refl _
theorem sortL_perm : ∀ l, (sortL l).Perm l
  | [] => .refl _
  | x :: r => (insL_perm x _).trans (List.Perm.cons x (sortL_perm r))
theorem insL_pw (x : List (List Nat)) : ∀ l : List (List (List Nat)), l.Pairwise leL → (insL x l).Pairwise leL
  | [], _ => by simp [insL]
  | y :: r, h => by
    obtain ⟨h1, h2⟩ := List.pairwise_cons.mp h
    unfold insL
    split
    · rename_i hl
      refine List.pairwise_cons.mpr ⟨fun z hz => ?_, insL_pw x r h2⟩
      rcases List.mem_cons.mp ((insL_perm x r).mem_iff.mp hz) with rfl | hz
      · exact ltL_le hl
      · exact h1 z hz
    · rename_i hl
      have hxy : leL x y := by simpa [leL] using hl
      refine List.pairwise_cons.mpr ⟨fun z hz => ?_, h⟩
      rcases List.mem_cons.mp hz with rfl | hz
      · exact hxy
      · exact leL_trans hxy (h1 z hz)
theorem sortL_pw : ∀ l, (sortL l).Pairwise leL
  | [] => .nil
  | x :: r => insL_pw x _ (sortL_pw r)
theorem insT_perm (x : List (List Nat) × D) : ∀ l, (insT x l).Perm (x :: l)
  | [] => .refl _
  | y :: r => by
    unfold insT
    split
    · exact (List.Perm.cons y (insT_perm x r)).trans (List.Perm.swap x y r)
    · exact .refl _
theorem sortT_perm : ∀ l, (sortT l).Perm l
  | [] => .refl _
  | x :: r => (insT_perm x _).trans (List.Perm.cons x (sortT_perm r))
theorem insT_pw (x : List (List Nat) × D) : ∀ l : List (List (List Nat) × D), l.Pairwise (fun a b => leL a.1 b.1) → (insT x l).Pairwise fun a b => leL a.1 b.1
  | [], _ => by simp [insT]
  | y :: r, h => by
    obtain ⟨h1, h2⟩ := List.pairwise_cons.mp h
    unfold insT
    split
    · rename_i hl
      refine List.pairwise_cons.mpr ⟨fun z hz => ?_, insT_pw x r h2⟩
      rcases List.mem_cons.mp ((insT_perm x r).mem_iff.mp hz) with rfl | hz
      · exact ltL_le hl
      · exact h1 z hz
    · rename_i hl
      have hxy : leL x.1 y.1 := by simpa [leL] using hl
      refine List.pairwise_cons.mpr ⟨fun z hz => ?_, h⟩
      rcases List.mem_cons.mp hz with rfl | hz
      · exact hxy
      · exact leL_trans hxy (h1 z hz)
theorem sortT_pw : ∀ l, (sortT l).Pairwise fun a b => leL a.1 b.1
  | [] => .nil
  | x :: r => insT_pw x _ (sortT_pw r)
theorem swoL {α : Type} (k : α → List (List Nat)) : SrtO.Swo fun v u => ltL (k v) (k u) := ⟨fun x y h => ltL_le h, fun x y z h1 h2 => leL_trans (b := k y) h1 h2⟩
/-! ### tuples led by texts, on the heap -/
inductive Led (al : Bool) : List Value → List (List Nat) → Prop where
  | nil : al = true → Led al [] []
  | stop {xs : List Value} : al = false → Led al xs []
  | cons {s : List Nat} {t : Tok} {xs : List Value} {ss : List (List Nat)} : Led al xs ss → Led al (.str (toS s) t :: xs) (s :: ss)
def TupTx (al : Bool) (h : Heap) (v : Value) (ss : List (List Nat)) : Prop := ∃ a xs, v = .ref a ∧ IsTup h a xs ∧ Led al xs.toList ss
theorem TupTx.keeps {al : Bool} {h h' : Heap} {v : Value} {ss : List (List Nat)} (x : TupTx al h v ss) (k : ∀ b o, h.get? b = some o → o.cls = .type "tuple" → h'.get? b = some o) : TupTx al h' v ss := by
  obtain ⟨a, xs, e, ⟨o, ho, hc, hd⟩, i⟩ := x
  exact ⟨a, xs, e, ⟨o, k _ _ ho hc, hc, hd⟩, i⟩
section
variable {prog : Program} {w : World} {A : Around} {E : Value → Shared → Prop} {s : Shared} {Q : Bool → Shared → Prop}
theorem eqBool_self (v : Value) (h : Q true s) : wpAny (model prog w) A (eqBool v v) Q E s := by
  unfold eqBool
  refine wpAny_holding ?_
  rw [if_pos (beq_self_eq_true v)]
  exact wpAny_bind (wpAny_rule (wpAny_pure h))
theorem lex_self {b fin : Bool} (h : Q fin s) : ∀ (xs : List Value) (i : Nat), PySem.W.KatLex prog w A b fin Q (xs.zip xs) i s
  | [], i => PySem.W.kat_nil h
  | v :: r, i => PySem.W.kat_cons (eqBool_self v (PySem.W.kat_yes (lex_self h r (i + 1))))
theorem lex_txs {al b fin : Bool} {xs : List Value} {ss : List (List Nat)} (hx : Led al xs ss) : ∀ {ys : List Value} {ts : List (List Nat)} (i : Nat), Led al ys ts → ss.length = ts.length → (al = true → fin = false) → (al = false → ss ≠ ts) → Q (ltL ss ts) s →
    PySem.W.KatLex prog w A b fin Q (xs.zip ys) i s := by
  induction hx with
  | nil ha =>
    intro ys ts i hy hl hf hne h
    cases hy with
    | nil _ => rw [hf ha]; exact PySem.W.kat_nil h
    | stop z => rw [ha] at z; cases z
    | cons _ => simp at hl
  | stop ha =>
    intro ys ts i hy hl hf hne h
    cases ts with
    | nil => exact absurd rfl (hne ha)
    | cons a r => simp at hl
  | @cons x t xs ss _ ih =>
    intro ys ts i hy hl hf hne h
    cases hy with
    | nil _ => simp at hl
    | stop _ => simp at hl
    | @cons y u ys ts hy =>
      refine PySem.W.kat_cons (wpAny_eqBool_str ?_)
      by_cases e : x = y
      · subst e
        rw [decide_eq_true rfl]
        have e1 : ltL (x :: ss) (x :: ts) = ltL ss ts := by simp [ltL, ltS_self]
        rw [e1] at h
        exact PySem.W.kat_yes (ih (i + 1) hy (by simpa using hl) hf (fun z q => hne z (by rw [q])) h)
      · have ne : ¬ toS x = toS y := fun z => e (by have := congrArg (fun q : Str => q.cps.toList) z; simpa using this)
        rw [decide_eq_false ne]
        have e1 : ltL (x :: ss) (y :: ts) = decide ((toS x).cps.toList < (toS y).cps.toList) := by
          show ltL (x :: ss) (y :: ts) = decide (x < y)
          rw [lt_iff]
          simp only [ltL, e, if_false]
          cases ltS x y <;> rfl
        rw [e1] at h
        exact PySem.W.kat_no (oneLt_any_str h)
end
def tx1 : Value → List Nat
  | .str x _ => x.cps.toList
  | _ => []
/-- the first n texts of a tuple, read off the heap -/
def txOf (n : Nat) (h : Heap) (v : Value) : List (List Nat) := match v with
  | .ref a => match h.get? a with
    | some o => match o.data with
      | .seq xs _ => (xs.toList.take n).map tx1
      | _ => []
    | none => []
  | _ => []
theorem led_tx {al : Bool} {xs : List Value} {ss : List (List Nat)} (h : Led al xs ss) : (xs.take ss.length).map tx1 = ss := by
  induction h with
  | nil _ => rfl
  | stop _ => simp
  | cons _ ih => simp [ih, tx1]
theorem TupTx.tx {al : Bool} {h : Heap} {v : Value} {ss : List (List Nat)} {n : Nat} (x : TupTx al h v ss) (hn : ss.length = n) : txOf n h v = ss := by
  obtain ⟨a, xs, rfl, ⟨o, ho, hc, m, hd⟩, i⟩ := x
  simp only [txOf, ho, hd]
  rw [← hn]; exact led_tx i
section
variable {prog : Program} {w : World} {A : Around} {E : Value → Shared → Prop} {s : Shared}
theorem firsts_tx {al : Bool} {h : Heap} {n : Nat} (hn : 0 < n) : ∀ vs : List Value, (∀ v ∈ vs, ∃ ss, TupTx al h v ss ∧ ss.length = n) → ∃ fs, PySem.W.KatTups h vs fs ∧ fs.length = vs.length ∧ ∀ f ∈ fs, ∃ x t, f = Value.str x t
  | [], _ => ⟨[], PySem.W.KatTups.nil, rfl, fun f hf => nomatch hf⟩
  | v :: vs, x => by
    obtain ⟨fs, k, hl, hi⟩ := firsts_tx hn vs fun u hu => x u (List.mem_cons_of_mem _ hu)
    obtain ⟨ss, ⟨a, xs, rfl, ⟨o, ho, hc, m, hd⟩, i⟩, hs⟩ := x v List.mem_cons_self
    generalize hxl : xs.toList = l at i
    cases i with
    | nil _ => simp at hs; omega
    | stop _ => simp at hs; omega
    | @cons y t r ss i =>
      refine ⟨.str (toS y) t :: fs, PySem.W.KatTups.cons ho hc hd ?_ k, by simp [hl], fun f hf => ?_⟩
      · have z := congrArg (fun l : List Value => l[0]?) hxl
        simpa using z
      · rcases List.mem_cons.mp hf with rfl | hf
        · exact ⟨_, _, rfl⟩
        · exact hi f hf
theorem txs_sortable {al : Bool} {a : Addr} {vs : List Value} {n : Nat} {k : Value → List (List Nat)} (hn : 0 < n) (h0 : 0 < vs.length) (hp : ∀ v ∈ vs, TupTx al s.heap v (k v) ∧ (k v).length = n) (hB : al = false → ∀ v ∈ vs, ∀ u ∈ vs, k v = k u → v = u)
    (ha : ∀ o, s.heap.get? a = some o → o.cls ≠ .type "tuple") : SrtO.SortableO prog w A s a vs fun v u => ltL (k v) (k u) := by
  intro h' keep
  have hp' : ∀ v ∈ vs, TupTx al h' v (k v) ∧ (k v).length = n := fun v hm => ⟨(hp v hm).1.keeps fun b o e c => keep b o (fun z => by subst z; exact ha o e c) e, (hp v hm).2⟩
  obtain ⟨fs, h1, h2, h3⟩ := firsts_tx hn vs fun v hm => ⟨_, hp' v hm⟩
  refine ⟨tuples' true, fun Q E hq => ?_, ?_⟩
  · refine PySem.W.kat_kind (T := .type "str") h1 (by omega) (fun f hm => ?_) (by rfl) ?_
    · obtain ⟨x, t, rfl⟩ := h3 f hm
      exact PySem.W.Looks.of_pure rfl
    · have e : (Value.type "str" != Value.type "tuple") = true := by first | decide +kernel | rfl | decide
      rw [e]
      exact hq
  · intro p q hm hm'
    obtain ⟨g1, l1⟩ := hp' _ hm
    obtain ⟨g2, l2⟩ := hp' _ hm'
    show wpAny (model prog w) A (keyLt' (tuples' true) p.1 q.1) (fun r s' => s' = { s with heap := h' } ∧ r = ltL (k p.1) (k q.1)) (fun _ _ => False) { s with heap := h' }
    by_cases eq : p.1 = q.1
    · rw [← eq]
      have lself : ltL (k p.1) (k p.1) = false := by
        have := swoL (fun v : Value => k v)
        exact this.refl p.1
      obtain ⟨a1, xs, e1, ⟨o, ho, hc, m, hd⟩, i⟩ := g1
      rw [lself, e1]
      refine PySem.W.kat_lt ho hd ho hd ?_
      refine lex_self ?_ _ _
      exact ⟨rfl, decide_eq_false (by omega)⟩
    · have hne : al = false → k p.1 ≠ k q.1 := fun z e => eq (hB z _ hm _ hm' e)
      generalize k p.1 = ss at *
      generalize k q.1 = ts at *
      obtain ⟨a1, xs, e1, ⟨o, ho, hc, m, hd⟩, i⟩ := g1
      obtain ⟨a2, ys, e2, ⟨o2, ho2, hc2, m2, hd2⟩, i2⟩ := g2
      rw [e1, e2]
      refine PySem.W.kat_lt ho hd ho2 hd2 ?_
      refine lex_txs i 0 i2 (l1.trans l2.symm) (fun z => ?_) hne ⟨rfl, rfl⟩
      have len : ∀ {l : List Value} {r : List (List Nat)}, Led al l r → l.length = r.length := fun q => by
        induction q with
        | nil _ => rfl
        | stop c => rw [z] at c; cases c
        | cons _ ih => simp [ih]
      have c1 := len i
      have c2 := len i2
      rw [Array.length_toList] at c1 c2
      exact decide_eq_false (by omega)
end
/-! ### by data -/
def kD : Bool → D → List (List Nat)
  | true, .tup ds => (strsO ds).getD []
  | false, .tup (.str s :: _) => [s]
  | _, _ => []
theorem keysA_is : ∀ {n : Nat} {xs : List D} {ks : List (List (List Nat))}, keysA n xs = some ks → ks = xs.map (kD true) ∧ ∀ d ∈ xs, ∃ ss, d = tupS ss ∧ ss.length = n ∧ kD true d = ss
  | n, [], ks, h => by simp [keysA] at h; subst h; exact ⟨rfl, fun d hd => nomatch hd⟩
  | n, d :: r, ks, h => by
    cases d with
    | tup ds =>
      simp only [keysA] at h
      cases h1 : strsO ds with
      | none => rw [h1] at h; cases h
      | some ss =>
        cases h2 : keysA n r with
        | none => rw [h1, h2] at h; cases h
        | some l =>
          rw [h1, h2] at h
          dsimp only at h
          split at h
          · rename_i hl
            cases h
            obtain ⟨e1, e2⟩ := keysA_is h2
            refine ⟨by simp [kD, h1, e1], fun d hd => ?_⟩
            rcases List.mem_cons.mp hd with rfl | hd
            · refine ⟨ss, ?_, hl, by simp [kD, h1]⟩
              unfold tupS
              congr 1
              clear h2 e1 e2 hl
              induction ds generalizing ss with
              | nil => simp [strsO] at h1; subst h1; rfl
              | cons a q ih =>
                cases a with
                | str t =>
                  simp only [strsO, Option.map_eq_some_iff] at h1
                  obtain ⟨l', e, rfl⟩ := h1
                  rw [List.map_cons, ← ih _ e (by exact List.mem_cons_self)]
                | _ => cases h1
            · exact e2 d hd
          · cases h
    | _ => cases h
theorem keysB_is : ∀ {xs : List D} {ks : List (List (List Nat))}, keysB xs = some ks → ks = xs.map (kD false) ∧ ∀ d ∈ xs, ∃ s r, d = .tup (.str s :: r) ∧ kD false d = [s]
  | [], ks, h => by simp [keysB] at h; subst h; exact ⟨rfl, fun d hd => nomatch hd⟩
  | .tup (.str s :: q) :: r, ks, h => by
    simp only [keysB] at h
    cases h2 : keysB r with
    | none => rw [h2] at h; cases h
    | some l =>
      rw [h2] at h
      cases h
      obtain ⟨e1, e2⟩ := keysB_is h2
      refine ⟨by simp [kD, e1], fun d hd => ?_⟩
      rcases List.mem_cons.mp hd with rfl | hd
      · exact ⟨s, q, rfl, rfl⟩
      · exact e2 d hd
  | .tup [] :: _, ks, h => by simp [keysB] at h
  | .tup (.non :: _) :: _, ks, h => by simp [keysB] at h
  | .tup (.bl _ :: _) :: _, ks, h => by simp [keysB] at h
  | .tup (.int _ :: _) :: _, ks, h => by simp [keysB] at h
  | .tup (.tup _ :: _) :: _, ks, h => by simp [keysB] at h
  | .tup (.lst _ :: _) :: _, ks, h => by simp [keysB] at h
  | .tup (.dk _ _ :: _) :: _, ks, h => by simp [keysB] at h
  | .tup (.dt _ _ :: _) :: _, ks, h => by simp [keysB] at h
  | .tup (.scr _ :: _) :: _, ks, h => by simp [keysB] at h
  | .tup (.adr _ _ :: _) :: _, ks, h => by simp [keysB] at h
  | .non :: _, ks, h => by simp [keysB] at h
  | .bl _ :: _, ks, h => by simp [keysB] at h
  | .int _ :: _, ks, h => by simp [keysB] at h
  | .str _ :: _, ks, h => by simp [keysB] at h
  | .lst _ :: _, ks, h => by simp [keysB] at h
  | .dk _ _ :: _, ks, h => by simp [keysB] at h
  | .dt _ _ :: _, ks, h => by simp [keysB] at h
  | .scr _ :: _, ks, h => by simp [keysB] at h
  | .adr _ _ :: _, ks, h => by simp [keysB] at h
section
variable [Pw] {X : Cx}
theorem led_of {al : Bool} {H : Hp} {O : Addr → Prop} : ∀ {ss : List (List Nat)} {ds : List D} {vs : List V} {us : List Value}, Rps X.K H O (ss.map .str ++ ds) vs → Vals vs us → (al = true → ds = []) → Led al us ss
  | [], ds, vs, us, rr, rv, hal => by
    cases al with
    | true =>
      have := hal rfl
      subst this
      have := rr.inv0
      subst this
      cases rv
      exact .nil rfl
    | false => exact .stop rfl
  | s :: ss, ds, vs, us, rr, rv, hal => by
    obtain ⟨v, w, rfl, r1, r2⟩ := rr.inv
    obtain ⟨e1, _⟩ := rb_str r1.b
    subst e1
    cases rv with
    | cons ru rt =>
      obtain ⟨t, rfl⟩ := ru
      exact .cons (led_of r2 rt hal)
theorem tup_tx {al : Bool} {pins : List (Addr × Obj)} {σ : L2.St} {H : Hp} {s : Shared} {O : Addr → Prop} {ss : List (List Nat)} {ds : List D} {v : V} {u : Value} (I : Inv X pins σ H s) (r : Rp X.K H O (.tup (ss.map .str ++ ds)) v) (ru : RelV v u) (hal : al = true → ds = []) : TupTx al s.heap u ss := by
  obtain ⟨a, vs, rfl, sq, _, rr⟩ := rb_tup r.b
  obtain rfl : u = Value.ref a := ru
  obtain ⟨its, rv, ht, _⟩ := I.tuple sq
  exact ⟨a, its.toArray, rfl, ht, by simpa using led_of rr rv hal⟩
/-- values and what they bear -/
def VD (K : PySem.W.Frag) (H : Hp) (O : Addr → Prop) (u : Value) (p : D × V) : Prop := RelV p.2 u ∧ Rp K H O p.1 p.2
theorem vd_of {K : PySem.W.Frag} {H : Hp} {O : Addr → Prop} : ∀ {ds : List D} {vs : List V} {us : List Value}, Rps K H O ds vs → Vals vs us → Paired (VD K H O) us (ds.zip vs)
  | [], vs, us, rr, rv => by
    have := rr.inv0
    subst this
    cases rv
    exact .nil
  | d :: ds, vs, us, rr, rv => by
    obtain ⟨v, w, rfl, r1, r2⟩ := rr.inv
    cases rv with
    | cons ru rt => exact .cons ⟨ru, r1⟩ (vd_of r2 rt)
theorem vd_out {K : PySem.W.Frag} {H : Hp} {O : Addr → Prop} {us : List Value} {m : List (D × V)} (h : Paired (VD K H O) us m) : Vals (m.map (·.2)) us ∧ Rps K H O (m.map (·.1)) (m.map (·.2)) := by
  induction h with
  | nil => exact ⟨.nil, Rps.nil⟩
  | cons h _ ih => exact ⟨.cons h.1 ih.1, Rps.cons h.2 ih.2⟩
theorem zip_map (f : D → List (List Nat)) : ∀ xs : List D, (xs.map f).zip xs = xs.map fun d => (f d, d)
  | [] => rfl
  | x :: r => by simp [zip_map f r]
/-- what a sort by the keys gives -/
theorem srt_is {ds : List D} {d : D} (e : srtT ds = .ok d) : ∃ (al : Bool) (n : Nat), 0 < n ∧ (∀ x ∈ ds, ∃ ss r, x = .tup (ss.map .str ++ r) ∧ (al = true → r = []) ∧ kD al x = ss ∧ ss.length = n) ∧ (al = false → (ds.map (kD false)).Nodup) ∧
    ∀ ds' : List D, ds'.Perm ds → ds'.Pairwise (fun a b => leL (kD al a) (kD al b)) → d = .lst ds' := by
  unfold srtT at e
  cases hA : keysA (widT ds) ds with
  | some ks =>
    rw [hA] at e
    dsimp only at e
    split at e
    · rename_i hw
      cases e
      obtain ⟨e1, e2⟩ := keysA_is hA
      refine ⟨true, widT ds, hw, fun x hx => ?_, (fun z => nomatch z), fun ds' hp pw => ?_⟩
      · obtain ⟨ss, rfl, hl, hk⟩ := e2 x hx
        exact ⟨ss, [], by simp [tupS], fun _ => rfl, hk, hl⟩
      · have hk : (ds'.map (kD true)) = sortL ks := by
          refine List.Perm.eq_of_pairwise (fun a b _ _ => leL_anti) (List.pairwise_map.mpr pw) (sortL_pw ks) ?_
          rw [e1]
          exact (hp.map _).trans (sortL_perm _).symm
        rw [← hk, List.map_map]
        congr 1
        refine (List.map_congr_left (g := fun x => x) fun x hx => ?_).trans (by simp)
        obtain ⟨ss, rfl, hl, hk⟩ := e2 x (hp.mem_iff.mp hx)
        simp [hk]
    · cases e
  | none =>
    rw [hA] at e
    dsimp only at e
    unfold srtB at e
    cases hB : keysB ds with
    | none => rw [hB] at e; cases e
    | some ks =>
      rw [hB] at e
      dsimp only at e
      split at e
      · rename_i hnd
        cases e
        obtain ⟨e1, e2⟩ := keysB_is hB
        subst e1
        refine ⟨false, 1, by omega, fun x hx => ?_, fun _ => hnd, fun ds' hp pw => ?_⟩
        · obtain ⟨s, r, rfl, hk⟩ := e2 x hx
          exact ⟨[s], r, rfl, (fun z => nomatch z), hk, rfl⟩
        · rw [zip_map]
          have hk : (ds'.map fun x => (kD false x, x)) = sortT (ds.map fun x => (kD false x, x)) := by
            refine List.Perm.eq_of_pairwise (le := fun a b => leL a.1 b.1) (fun a b ha hb h1 h2 => ?_) (List.pairwise_map.mpr pw) (sortT_pw _) ((hp.map _).trans (sortT_perm _).symm)
            have hab := leL_anti h1 h2
            obtain ⟨x, hx, rfl⟩ := List.mem_map.mp ha
            obtain ⟨y, hy, rfl⟩ := List.mem_map.mp ((sortT_perm _).mem_iff.mp hb)
            dsimp only at hab
            have hx' := hp.mem_iff.mp hx
            have inj : ∀ {l : List D}, (l.map (kD false)).Nodup → ∀ x ∈ l, ∀ y ∈ l, kD false x = kD false y → x = y := by
              intro l
              induction l with
              | nil => intro _ x hx; cases hx
              | cons a r ih =>
                intro nd x hx y hy exy
                rw [List.map_cons, List.nodup_cons] at nd
                rcases List.mem_cons.mp hx with hx1 | hx1
                · rcases List.mem_cons.mp hy with hy1 | hy1
                  · rw [hx1, hy1]
                  · exact absurd (List.mem_map.mpr ⟨y, hy1, by rw [← exy, hx1]⟩) nd.1
                · rcases List.mem_cons.mp hy with hy1 | hy1
                  · exact absurd (List.mem_map.mpr ⟨x, hx1, by rw [exy, hy1]⟩) nd.1
                  · exact ih nd.2 x hx1 y hy1 exy
            rw [inj hnd x hx' y hy hab]
          rw [← hk, List.map_map]
          congr 1
          exact (List.map_congr_left (g := fun x => x) fun x hx => rfl).trans (by simp)
      · cases e
theorem paired_get {α β : Type} {F : α → β → Prop} : ∀ {l : List α} {m : List β}, Paired F l m → ∀ a ∈ l, ∃ b ∈ m, F a b
  | _, _, .cons h t, a, ha => by
    rcases List.mem_cons.mp ha with rfl | ha
    · exact ⟨_, List.mem_cons_self, h⟩
    · obtain ⟨b, hb, r⟩ := paired_get t a ha
      exact ⟨b, List.mem_cons_of_mem _ hb, r⟩
/-- what a sort of tuples gives -/
def SrtOk (ds : List D) (d : D) : Prop := ∃ (al : Bool) (n : Nat), 0 < n ∧ (∀ x ∈ ds, ∃ ss r, x = .tup (ss.map .str ++ r) ∧ (al = true → r = []) ∧ kD al x = ss ∧ ss.length = n) ∧ (al = false → (ds.map (kD false)).Nodup) ∧
    ∀ ds' : List D, ds'.Perm ds → ds'.Pairwise (fun a b => leL (kD al a) (kD al b)) → d = .lst ds'
theorem srt_nil : SrtOk [] (.lst []) := ⟨true, 1, by omega, (fun _ z => nomatch z), (fun z => nomatch z), fun ds' hp _ => by rw [hp.eq_nil]⟩
/-- the sort of what was collected -/
theorem srt_core0 {pins : List (Addr × Obj)} {σ : L2.St} {H : Hp} {s : Shared} {Q : VK} {O : Addr → Prop} {v : Value} {its : List Value} {vs : List V} {ds : List D} {d : D} (al : AllocO O H) (rv : Vals vs its) (rr : Rps X.K H O ds vs) (hz : its.length ≤ sizeLine) (e : SrtOk ds d)
    (hcol : ∀ (R : List Value → Shared → Prop) (E : Value → Shared → Prop), (∀ its' s1, its'.Perm its → Inv X pins σ H s1 → R its' s1) → wpAny (model X.prog X.w) X.A.in1 (collect v) R E s)
    (q : ∀ v H', Same H H' → Nw X.K H H' O d v → Q v H') : wpAny (model X.prog X.w) X.A (call (.builtin "sorted") [v]) (EP X pins σ Q) X.xe s := by
  obtain ⟨alm, n, hn, hk, hB, fin⟩ := e
  have lzip : ds.length = vs.length := rr.len
  refine Calls.call_function_entry kind_sorted plain_sorted entry_sorted (args_sorted1 _) ?_
  unfold Builtin.«sorted»
  refine wpAny_bind (m := checkCount "sorted" 1 1 _) (wpAny_pure ?_)
  refine wpAny_bind (hcol _ _ fun its1 s1 hp1 I => ?_)
  obtain ⟨m1, pv, hm1⟩ := paired_perm hp1 (vd_of rr rv)
  have hz1 : its1.length ≤ sizeLine := by rw [hp1.length_eq]; exact hz
  have hmd : ∀ p ∈ m1, p.1 ∈ ds := fun p hp => (List.of_mem_zip (hm1.mem_iff.mp hp)).1
  have hpd : (m1.map (·.1)).Perm ds := by
    have := hm1.map (·.1)
    rwa [List.map_fst_zip (by omega)] at this
  have key : ∀ u p, p ∈ m1 → VD X.K H O u p → TupTx alm s1.heap u (kD alm p.1) ∧ (kD alm p.1).length = n ∧ txOf n s1.heap u = kD alm p.1 := fun u p hp hv => by
    obtain ⟨ss, r, e1, e2, e3, e4⟩ := hk p.1 (hmd p hp)
    obtain ⟨h1, h2⟩ := hv
    rw [e1] at h2
    have t := tup_tx I h2 h1 e2
    rw [e3]
    exact ⟨t, e4, t.tx e4⟩
  refine wpAny_bind (wpAny_newList ?_ hz1)
  have hoL : (s1.heap.push (seqObj "list" its1.toArray 0)).get? s1.heap.objs.size = some (seqObj "list" its1.toArray 0) := Heap.get?_push_size _ rfl
  have keep : ∀ b o, s1.heap.get? b = some o → b ≠ s1.heap.objs.size ∧ (s1.heap.push (seqObj "list" its1.toArray 0)).get? b = some o := fun b o q => ⟨Nat.ne_of_lt (Heap.lt_size q), Heap.get?_push_of_some _ q⟩
  show wpAny _ _ _ _ _ { s1 with heap := s1.heap.push (seqObj "list" its1.toArray 0) }
  refine wpAny_bind (wpAny_holding (wpAny_call_entry slot_list_sort ⟨_, hoL, rfl⟩ entry_list_sort (SrtO.list_sort_ord (s := { s1 with heap := s1.heap.push (seqObj "list" its1.toArray 0) }) (swoL (txOf n s1.heap)) hoL hz1 (fun h2 => ?_) fun out hs hb => ⟨_, rfl, ?_⟩) (args_list_sort _)))
  · refine txs_sortable (al := alm) (n := n) hn (by omega) (fun u hu => ?_) (fun z u hu u' hu' exy => ?_) fun o eo => ?_
    · obtain ⟨p, hp, hv⟩ := paired_get pv u hu
      obtain ⟨t1, t2, t3⟩ := key u p hp hv
      rw [t3]
      exact ⟨t1.keeps fun b o e _ => (keep b o e).2, t2⟩
    · subst z
      have nd := hB rfl
      have inj : ∀ {us : List Value} {m : List (D × V)}, Paired (VD X.K H O) us m → (∀ p ∈ m, p ∈ m1) → (m.map fun p => kD false p.1).Nodup → ∀ u ∈ us, ∀ u' ∈ us, txOf n s1.heap u = txOf n s1.heap u' → u = u' := by
        intro us m pm
        induction pm with
        | nil => intro _ _ u hu; cases hu
        | @cons a b us m hab tl ih =>
          intro hm nd u hu u' hu' exy
          rw [List.map_cons, List.nodup_cons] at nd
          have ka := (key a b (hm b List.mem_cons_self) hab).2.2
          have kt : ∀ x ∈ us, ∃ p ∈ m, txOf n s1.heap x = kD false p.1 := fun x hx => by
            obtain ⟨p, hp, hv⟩ := paired_get tl x hx
            exact ⟨p, hp, (key x p (hm p (List.mem_cons_of_mem _ hp)) hv).2.2⟩
          rcases List.mem_cons.mp hu with hu1 | hu1
          · rcases List.mem_cons.mp hu' with hu2 | hu2
            · rw [hu1, hu2]
            · obtain ⟨p, hp, ep⟩ := kt u' hu2
              exact absurd (List.mem_map.mpr ⟨p, hp, by rw [← ep, ← exy, hu1, ka]⟩) nd.1
          · rcases List.mem_cons.mp hu' with hu2 | hu2
            · obtain ⟨p, hp, ep⟩ := kt u hu1
              exact absurd (List.mem_map.mpr ⟨p, hp, by rw [← ep, exy, hu2, ka]⟩) nd.1
            · exact ih (fun p hp => hm p (List.mem_cons_of_mem _ hp)) nd.2 u hu1 u' hu2 exy
      refine inj pv (fun p hp => hp) ?_ u hu u' hu' exy
      have : (m1.map fun p => kD false p.1) = (m1.map (·.1)).map (kD false) := by rw [List.map_map]; rfl
      rw [this]; exact (hpd.map _).nodup_iff.mpr nd
    · have e' : some o = some (seqObj "list" its1.toArray 0) := eo.symm.trans hoL
      cases e'
      intro c
      exact absurd (Value.type.inj c) (by decide)
  · obtain ⟨m, pm, hm⟩ := paired_perm hb.perm pv
    obtain ⟨v1, r1⟩ := vd_out pm
    obtain ⟨ep, he'⟩ := PyProof.Rows.sortedHeap_at (vs := its1) (out := out.toArray) hoL
    have hperm : (m.map (·.1)).Perm ds := (hm.map (·.1)).trans hpd
    have hd : d = .lst (m.map (·.1)) := by
      refine fin _ hperm ?_
      rw [List.pairwise_map]
      have pwo : out.Pairwise fun x y => leL (txOf n s1.heap x) (txOf n s1.heap y) := hs
      have hmm : ∀ p ∈ m, p ∈ m1 := fun p hp => hm.mem_iff.mp hp
      clear hm hperm r1 v1 he' hb hs
      induction pm with
      | nil => exact .nil
      | @cons a b us m hab tl ih =>
        obtain ⟨w1, w2⟩ := List.pairwise_cons.mp pwo
        refine List.pairwise_cons.mpr ⟨fun p hp => ?_, ih w2 fun p hp => hmm p (List.mem_cons_of_mem _ hp)⟩
        have ka := (key a b (hmm b List.mem_cons_self) hab).2.2
        obtain ⟨x, hx, hv⟩ : ∃ x ∈ us, VD X.K H O x p := by
          clear ih w1 w2 pwo hmm hab ka
          induction tl with
          | nil => cases hp
          | @cons a' b' us' m' h' _ ih' =>
            rcases List.mem_cons.mp hp with hp1 | hp1
            · rw [hp1]; exact ⟨a', List.mem_cons_self, h'⟩
            · obtain ⟨x, hx, hv⟩ := ih' hp1
              exact ⟨x, List.mem_cons_of_mem _ hx, hv⟩
        have kx := (key x p (hmm p (List.mem_cons_of_mem _ hp)) hv).2.2
        have := w1 x hx
        rw [ka, kx] at this
        exact this
    subst hd
    have hlen : (m.map (·.2)).length ≤ sizeLine := by rw [v1.length, hb.len]; exact hz1
    have hp : H s1.heap.objs.size = none := I.hok.fresh (Nat.le_refl _)
    refine wpAny_pure ⟨_, rfl, .ref s1.heap.objs.size, upd H s1.heap.objs.size (.lst (m.map (·.2))), I.laid (t' := s1.toks) (fun b o eo => ?_) (Nat.le_refl _) ⟨hlen, out, ep, v1, he'⟩, rfl, ?_⟩
    · have z1 : b ≠ s1.heap.objs.size := Nat.ne_of_lt (Heap.lt_size eo)
      have z2 : (s1.heap.push (seqObj "list" its1.toArray 0)).get? b = some o := Heap.get?_push_of_some _ eo
      rw [PyProof.Rows.sortedHeap_old z1 (Heap.lt_size z2)]
      exact z2
    · refine q _ _ (Same.new hp) (nw_lst al hp ?_ r1)
      rw [List.length_map, ← List.length_map (f := fun p : D × V => p.2), lim_eq]
      exact hlen
theorem srt_core {pins : List (Addr × Obj)} {σ : L2.St} {H : Hp} {s : Shared} {Q : VK} {O : Addr → Prop} {v : Value} {its : List Value} {vs : List V} {ds : List D} {d : D} (al : AllocO O H) (rv : Vals vs its) (rr : Rps X.K H O ds vs) (hz : its.length ≤ sizeLine) (e : srtT ds = .ok d)
    (hcol : ∀ (R : List Value → Shared → Prop) (E : Value → Shared → Prop), (∀ its' s1, its'.Perm its → Inv X pins σ H s1 → R its' s1) → wpAny (model X.prog X.w) X.A.in1 (collect v) R E s)
    (q : ∀ v H', Same H H' → Nw X.K H H' O d v → Q v H') : wpAny (model X.prog X.w) X.A (call (.builtin "sorted") [v]) (EP X pins σ Q) X.xe s := srt_core0 al rv rr hz (srt_is e) hcol q
end
section
variable [Pw] {X : Cx}
theorem col_list {s : Shared} {l : Addr} {its : List Value} {prog : Program} {w : World} {A : Around} (hl : s.heap.IsList l its.toArray) (hz : its.length ≤ sizeLine) (R : List Value → Shared → Prop) (E : Value → Shared → Prop) (h : ∀ h' tk, (∀ b o, s.heap.get? b = some o → h'.get? b = some o) → R its { s with heap := h', toks := tk }) : wpAny (model prog w) A (collect (.ref l)) R E s := by
  refine collect_list hl (h _ s.toks fun b o e => ?_) hz
  have hlt : b < s.heap.objs.size := Heap.lt_size e
  rw [Heap.get?_update_ne _ _ _ _ (Nat.ne_of_lt hlt)]
  exact Heap.get?_push_of_some _ e
theorem col_tup {s : Shared} {l : Addr} {its : List Value} {prog : Program} {w : World} {A : Around} (hl : s.heap.IsTuple l its.toArray) (hsz : its.length ≤ sizeLine) (R : List Value → Shared → Prop) (E : Value → Shared → Prop) (h : ∀ h' tk, (∀ b o, s.heap.get? b = some o → h'.get? b = some o) → R its { s with heap := h', toks := tk }) : wpAny (model prog w) A (collect (.ref l)) R E s := by
  have h' := h ((s.heap.push (seqObj "list" #[] 0)).update s.heap.objs.size (Obj.mapSeq (· ++ its.toArray))) s.toks fun b o e => by
    have hlt : b < s.heap.objs.size := Heap.lt_size e
    rw [Heap.get?_update_ne _ _ _ _ (Nat.ne_of_lt hlt)]
    exact Heap.get?_push_of_some _ e
  obtain ⟨o, ho, hc, n, hd⟩ := id hl
  unfold collect
  refine wpAny_bind (wpAny_runValue (codeAny_builtin entry_proto_collect' ?_))
  show wpAny _ _ (do again (.builtin "list.__iadd__" ⟨[← newList [], .ref l], []⟩)) _ _ s
  refine wpAny_bind (wpAny_newList (wpAny_pure ⟨Code.quiet_builtin _ (by decide +kernel), codeAny_builtin entry_list_iadd' ?_⟩))
  show wpAny _ _ (Builtin.List.listExtendWith (.ref s.heap.objs.size) (.ref l) (.ref s.heap.objs.size)) _ _ { s with heap := s.heap.push (seqObj "list" #[] 0) }
  unfold Builtin.List.listExtendWith
  have ho' : (s.heap.push (seqObj "list" #[] 0)).get? l = some o := Heap.get?_push_of_some _ ho
  refine wpAny_bind (wpAny_typeOf (T := "tuple") ⟨o, ho', hc⟩ ?_)
  have ht : (Value.type "tuple" == Value.type "tuple") = true := by rfl
  rw [if_pos (by rw [ht]; simp)]
  refine wpAny_bind (listItems_at ho' hd ?_)
  refine wpAny_bind (listItems_at (xs := #[]) (n := 0) (Heap.get?_push_size _ rfl) rfl ?_)
  rw [if_neg (by simp)]
  refine wpAny_bind (listUpdate_at (xs := #[]) (n := 0) (Heap.get?_push_size _ rfl) rfl ?_ (Nat.zero_le _) (by show (#[] ++ its.toArray).size ≤ sizeLine + 1; simp only [Array.size_append, List.size_toArray, List.length_nil]; omega))
  refine wpAny_pure ?_
  show wpAny (model prog w) A (do
      let o ← load s.heap.objs.size
      match o.data with
      | .seq xs _ => pure xs.toList
      | _ => unsupported "internal:collect") R E { s with heap := (s.heap.push (seqObj "list" #[] 0)).update s.heap.objs.size (Obj.mapSeq (· ++ its.toArray)) }
  refine wpAny_bind (wpAny_load (get?_update_seq (Heap.get?_push_size _ rfl) _) ?_)
  show wpAny _ _ (pure ((#[] : Array Value) ++ its.toArray).toList) R E _
  rw [show ((#[] : Array Value) ++ its.toArray).toList = its by simp]
  exact wpAny_pure h'
theorem refs_valsA (L : List (Addr × List Key)) : Vals (L.map fun m => V.ref m.1) (L.map fun m => Value.ref m.1) := by
  induction L with
  | nil => exact .nil
  | cons m L ih => exact .cons rfl ih
theorem cl_sorted (hP : X.prog = Pw.P) (hw : X.w = Pw.w) (hc : X.calm = true) : CallR X (.builtin "sorted") (rDs X.K (bltD .sorted)) := by
  intro pins s σ H xs us Q I r h
  obtain ⟨O, d1, x, d, al, rfl, r1, e, q⟩ := h
  cases d1 with
  | dk ks ds => exact cl_sorted0 hc pins s σ H _ us Q I r ⟨O, .dk ks ds, x, d, al, rfl, r1, e, q⟩
  | lst ys =>
    simp only [bltD] at e
    cases hs : strsO ys with
    | some ss =>
      rw [hs] at e
      refine cl_sorted0 hc pins s σ H _ us Q I r ⟨O, .lst ys, x, d, al, rfl, r1, ?_, q⟩
      simp only [srt0, hs, ofO, ok_bind]
      exact e
    | none =>
      rw [hs] at e
      obtain ⟨a, vs, rfl, sq, hl, rr⟩ := rb_lst r1
      rw [Vals.ref1 r]
      obtain ⟨its, rv, pl, hz⟩ := I.list (SqL.of (K := X.K) sq)
      have hz' : its.length ≤ sizeLine := by rw [← rv.length]; exact hz
      exact srt_core al rv rr hz' e (fun R E h => col_list pl.isList hz' R E fun h' tk k => h its _ (.refl _) (I.kept k)) q
  | tup ys =>
    simp only [bltD] at e
    obtain ⟨a, vs, rfl, sq, hl, rr⟩ := rb_tup r1
    rw [Vals.ref1 r]
    obtain ⟨its, rv, pl, hz⟩ := I.tuple sq
    have hz' : its.length ≤ sizeLine := by rw [← rv.length]; exact hz
    exact srt_core al rv rr hz' e (fun R E h => col_tup (show s.heap.IsTuple a its.toArray from pl) hz' R E fun h' tk k => h its _ (.refl _) (I.kept k)) q
  | dt ks ds =>
    simp only [bltD] at e
    obtain ⟨a, L, rfl, hd, em, eds, hlen, hok, nd, hL⟩ := r1
    rw [Vals.ref1 r]
    rw [← hP, ← hw] at hd
    obtain ⟨lo, o, es, ep, h1, h2, h3, h4⟩ := dicT_get I hd
    have hLl : L.length = ks.length := by have := congrArg List.length em; simpa using this
    have hes : es.size = L.length := by
      have := congrArg List.length h4
      simpa using this
    have hz' : (L.map fun m => Value.ref m.1).length ≤ sizeLine := by rw [List.length_map, hLl, ← lim_eq]; exact hlen
    have rr : Rps X.K H O (ks.map fun l => .tup (l.map kyD)) (L.map fun m => V.ref m.1) := by
      have key : ∀ (L : List (Addr × List Key)) (ks : List (List Ky)), L.map (·.2) = ks.map (·.map kyV) → (∀ l ∈ ks, ∀ k ∈ l, okK k) → (∀ m ∈ L, SqT X.K H m.1 (m.2.map kV) ∧ NoD X.K H m.1) → Rps X.K H O (ks.map fun l => .tup (l.map kyD)) (L.map fun m => V.ref m.1) := by
        intro L
        induction L with
        | nil =>
          intro ks em _ _
          have : ks = [] := by simpa using em.symm
          subst this
          exact Rps.nil
        | cons m L ih =>
          intro ks em hok hL
          cases ks with
          | nil => simp at em
          | cons l ks =>
            simp only [List.map_cons, List.cons.injEq] at em
            refine Rps.cons ?_ (ih ks em.2 (fun l' hl' => hok l' (List.mem_cons_of_mem _ hl')) fun m' hm' => hL m' (List.mem_cons_of_mem _ hm'))
            obtain ⟨sq, no⟩ := hL m List.mem_cons_self
            rw [em.1] at sq
            obtain ⟨its, rv, _, hzz⟩ := I.tuple sq
            simp only [Rp]
            refine ⟨m.1, _, rfl, sq, ?_, rps_keys (hok l List.mem_cons_self), no⟩
            rw [List.length_map, lim_eq]
            simpa using hzz
      exact key L ks em hok hL
    have so : SrtOk (ks.map fun l => .tup (l.map kyD)) d := by
      unfold srtD at e
      split at e
      · cases e; exact srt_nil
      · exact srt_is e
    refine srt_core0 al (refs_valsA L) rr hz' so (fun R E h => ?_) q
    refine PySem.W.kdu_collect (A := X.A.in1) (PySem.KdlSrc.rawDict (es := es) (ep := ep) lo) (I.ok.hd hc) ⟨o, h1, h2, h3⟩ (by rw [hes, hLl, ← lim_eq]; exact hlen) fun h' tk acc hk hacc => ?_
    refine h _ _ ?_ (I.kept hk)
    have : acc.toList = L.map fun m => Value.ref m.1 := by
      refine List.ext_getElem? fun j => ?_
      cases hj : acc.toList[j]? with
      | none =>
        have h1 : acc.size ≤ j := by simpa using hj
        rw [hacc.1, hes] at h1
        rw [List.getElem?_eq_none (by simpa using h1)]
      | some v =>
        obtain ⟨hi, ev⟩ := hacc.2 j v (by rw [← Array.getElem?_toList]; exact hj)
        have e4 : es.toList[j]? = some es[j] := by simp [hi]
        rw [h4, List.map_map, List.getElem?_map] at e4
        rw [List.getElem?_map]
        cases hm : L[j]? with
        | none => rw [hm] at e4; cases e4
        | some m =>
          rw [hm] at e4
          have e5 := Option.some.inj e4
          rw [ev, ← e5]; rfl
    rw [this]
  | _ => cases e
end
end MT
end
section
set_option Elab.async false
set_option linter.all false
set_option maxRecDepth 100000
set_option maxHeartbeats 4000000
/-! MtY: sets of ints and texts; sorted of them. -/
namespace MT
open PySem PySem.Spec L2 PyProof.Rows
/-- an entry bears a key -/
def Ent (P : Program) (w : World) (e : Int × Value) (k : Key) : Prop := (mixKind P w).is k e.2 = true ∧ e.1 = (mixKind P w).hash k ∧ e.2.scannable = true
structure SetXR (P : Program) (w : World) (a : Addr) (h : Heap) (L : List Key) : Prop where
  ex : ∃ o es ep t, h.get? a = some o ∧ o.ExactSet ∧ o.data = .set es ep t ∧ Paired (Ent P w) es.toList L ∧ es.size < scanBound ∧ t.fits es.size = true ∧ Ris t.place.toList ∧ (w.params.followText "set-order" = true ∨ t.led = true)
  nd : L.Nodup
theorem paired_left {α β : Type} {F : α → β → Prop} : ∀ {l : List α} {m : List β}, Paired F l m → ∀ a ∈ l, ∃ b ∈ m, F a b
  | _, _, .cons h t, a, ha => by
    rcases List.mem_cons.mp ha with rfl | ha
    · exact ⟨_, List.mem_cons_self, h⟩
    · obtain ⟨b, hb, r⟩ := paired_left t a ha
      exact ⟨b, List.mem_cons_of_mem _ hb, r⟩
theorem paired_right {α β : Type} {F : α → β → Prop} : ∀ {l : List α} {m : List β}, Paired F l m → ∀ b ∈ m, ∃ a ∈ l, F a b
  | _, _, .cons h t, a, ha => by
    rcases List.mem_cons.mp ha with rfl | ha
    · exact ⟨_, List.mem_cons_self, h⟩
    · obtain ⟨b, hb, r⟩ := paired_right t a ha
      exact ⟨b, List.mem_cons_of_mem _ hb, r⟩
section
variable {P : Program} {w : World} {A : Around} {E : Value → Shared → Prop} {s : Shared} {a : Addr} {L : List Key}
theorem ent_elems {l : List (Int × Value)} (h : Paired (Ent P w) l L) : ElemsOf (mixKind P w) l := fun e he => by
  obtain ⟨k, _, r⟩ := paired_left h e he
  exact ⟨⟨k, r.1, r.2.1⟩, r.2.2⟩
theorem ent_mem {l : List (Int × Value)} (h : Paired (Ent P w) l L) (k : Key) : k ∈ L ↔ ∃ e ∈ l, (mixKind P w).is k e.2 = true := by
  constructor
  · intro hk
    obtain ⟨e, he, r⟩ := paired_right h k hk
    exact ⟨e, he, r.1⟩
  · rintro ⟨e, he, r⟩
    obtain ⟨k', hk', r'⟩ := paired_left h e he
    rw [(mixKind P w).inj e.2 k k' r r'.1]
    exact hk'
/-- behind the laying of a new one -/
theorem addX_tail {g : Bool → Sem Unit} (hg : ∀ (b : Bool) (s₁ : Shared) (Q' : Unit → Shared → Prop), Q' () s₁ → wpAny (model P w) A (g b) Q' E s₁)
    {o : Obj} {es : Array (Int × Value)} {ep : Nat} {t : SetTable} (ho : s.heap.get? a = some o) (hx : o.ExactSet) (hd : o.data = .set es ep t)
    {e1 : Array (Int × Value)} {t2 : SetTable} {L1 : List Key} (p1 : Paired (Ent P w) e1.toList L1) (n1 : L1.Nodup) (b1 : e1.size < scanBound) (f2 : t2.fits e1.size = true) (r2 : Ris t2.place.toList)
    (l2 : w.params.followText "set-order" = true ∨ t2.led = true) {was : Bool} {Z : Option Bool → Shared → Prop} (hZ : ∀ h' L', Heap.SameBut a s.heap h' → SetXR P w a h' L' → L'.Perm L1 → Z (some true) { s with heap := h' }) :
    wpAny (model P w) A (do
        storeSet a e1 t2
        if (!was && t2.tooFull) = true then do
            g (relayAll t2 e1 (SetTable.grown e1.size)).2.2
            storeSet a (relayAll t2 e1 (SetTable.grown e1.size)).1 (relayAll t2 e1 (SetTable.grown e1.size)).2.1
            pure (some true)
          else pure (some true)) Z E s := by
  refine wpAny_bind (wpAny_storeSet_of ho hd ?_ (fits_of_scanBound b1))
  have o1 := store_at (es' := e1) (t' := t2) ho hd
  have sb := Heap.SameBut.update s.heap a (Obj.putSet e1 t2)
  split
  · have pm := relayAll_perm t2 e1 (SetTable.grown e1.size)
    have f3 := relayAll_fits t2 e1 (SetTable.grown e1.size)
    have r3 := relayAll_ris t2 e1 (SetTable.grown e1.size)
    have l3 := relayAll_led t2 e1 (SetTable.grown e1.size)
    generalize relayAll t2 e1 (SetTable.grown e1.size) = Y at pm f3 r3 l3 ⊢
    obtain ⟨e2, t3, gave⟩ := Y
    dsimp only at pm f3 r3 l3 ⊢
    have z2 : e2.size = e1.size := by rw [← Array.length_toList, pm.length_eq, Array.length_toList]
    have b2 : e2.size < scanBound := by rw [z2]; exact b1
    refine wpAny_bind (hg _ _ _ (wpAny_bind (wpAny_storeSet_of o1 rfl ?_ (fits_of_scanBound b2))))
    have o2 := store_at (es' := e2) (t' := t3) o1 rfl
    obtain ⟨L2, q1, q2⟩ := paired_perm pm p1
    exact wpAny_pure (hZ _ L2 (sb.trans (Heap.SameBut.update _ a _)) ⟨⟨_, e2, _, t3, o2, hx, rfl, q1, b2, f3, r3, l2.imp id fun z => by rw [l3]; exact z⟩, q2.nodup_iff.mpr n1⟩ q2)
  · exact wpAny_pure (hZ _ L1 sb ⟨⟨_, e1, _, t2, o1, hx, rfl, p1, b1, f2, r2, l2⟩, n1⟩ (.refl _))
theorem addX {k : Key} {v : Value} {Q : Bool → Shared → Prop} (R : SetXR P w a s.heap L) (hk : (mixKind P w).is k v = true) (hs : v.scannable = true) (room : L.length + 1 < scanBound)
    (hQ : ∀ b h' L', Heap.SameBut a s.heap h' → SetXR P w a h' L' → (k ∈ L → L' = L) → (k ∉ L → L'.Perm (k :: L)) → Q b { s with heap := h' }) : wpAny (model P w) A (setAddHashed a v ((mixKind P w).hash k)) Q E s := by
  obtain ⟨⟨o, es, ep, t, ho, hx, hd, pr, hb, hf, hr, hl⟩, nd⟩ := R
  have hel := ent_elems pr
  unfold setAddHashed setAddHashedIn
  refine wpAny_holding (wpAny_bind (wpAny_setState_of ho hd hf ?_))
  dsimp only
  rw [byScan_of hs hb hel]
  simp only [↓reduceIte]
  unfold setAddByScan
  refine wpAny_bind (wpAny_bind (wpAny_rule (wpAny_bind (wpAny_setScan_of hk ho hd hf hel ?_))))
  cases hfi : List.findIdx? (fun e => (mixKind P w).is k e.2) es.toList with
  | some j =>
    dsimp only
    obtain ⟨hj, pj, _⟩ := List.findIdx?_eq_some_iff_getElem.mp hfi
    have hm : k ∈ L := (ent_mem pr k).mpr ⟨_, List.getElem_mem hj, pj⟩
    refine wpAny_pure (wpAny_pure ?_)
    exact hQ _ s.heap L (Heap.SameBut.refl a s.heap) ⟨⟨o, es, ep, t, ho, hx, hd, pr, hb, hf, hr, hl⟩, nd⟩ (fun _ => rfl) (fun z => (z hm).elim)
  | none =>
    dsimp only
    have hm : k ∉ L := fun z => by
      obtain ⟨e, he, q⟩ := (ent_mem pr k).mp z
      have c := List.findIdx?_eq_none_iff.mp hfi e he
      rw [q] at c
      cases c
    have hgw : ∀ (b : Bool) {s₁ : Shared} {Q' : Unit → Shared → Prop}, Q' () s₁ → wpAny (model P w) A (match b with | true => rule "set.scan.the-table-gave-way" | false => pure ()) Q' E s₁ := fun b s₁ Q' q => by cases b <;> first | exact wpAny_pure q | exact wpAny_rule q
    have pm := layNew_perm t es ((mixKind P w).hash k) v
    have f1 := layNew_fits t es ((mixKind P w).hash k) v
    have r1 := layNew_ris t es ((mixKind P w).hash k) v hr
    have l1 := layNew_led t es ((mixKind P w).hash k) v
    generalize layNew t es ((mixKind P w).hash k) v = Y at pm f1 r1 l1 ⊢
    obtain ⟨e1, t1, was, gave⟩ := Y
    dsimp only at pm f1 r1 l1 ⊢
    rw [Array.toList_push] at pm
    have pc : e1.toList.Perm (((mixKind P w).hash k, v) :: es.toList) := pm.trans (List.perm_append_singleton _ _)
    obtain ⟨L1, q1, q2⟩ := paired_perm pc (.cons (show Ent P w ((mixKind P w).hash k, v) k from ⟨hk, rfl, hs⟩) pr)
    have n1 : L1.Nodup := q2.nodup_iff.mpr (List.nodup_cons.mpr ⟨hm, nd⟩)
    have z1 : e1.size = L.length + 1 := by rw [← Array.length_toList, pc.length_eq, List.length_cons, pr.length]
    have b1 : e1.size < scanBound := by rw [z1]; exact room
    have led : w.params.followText "set-order" = true ∨ t1.led = true := hl.imp id fun z => by rw [l1]; exact z
    have fin : ∀ h' L', Heap.SameBut a s.heap h' → SetXR P w a h' L' → L'.Perm L1 → Q true { s with heap := h' } := fun h' L' sb r p => hQ _ h' L' sb r (fun z => (hm z).elim) fun _ => p.trans q2
    refine wpAny_bind (hgw _ ?_)
    split
    · refine wpAny_bind ?_
      rw [hashByValue_scannable 8 hs]
      refine wpAny_pure ?_
      refine addX_tail ?_ ho hx hd q1 n1 b1 ?_ ?_ ?_ ?_
      · intro b s₁ Q' q; cases b <;> first | exact wpAny_pure q | exact wpAny_rule q
      · first | (split <;> first | exact f1 | exact SetTable.fits_plain_off f1) | exact f1
      · first | (split <;> exact r1) | exact r1
      · first | (split <;> exact led) | exact led
      · intro h' L' sb r p; dsimp only; exact wpAny_pure (fin h' L' sb r p)
    · refine wpAny_bind (wpAny_pure ?_)
      simp only [↓reduceIte]
      refine addX_tail ?_ ho hx hd q1 n1 b1 f1 r1 led ?_
      · intro b s₁ Q' q; cases b <;> first | exact wpAny_pure q | exact wpAny_rule q
      · intro h' L' sb r p; dsimp only; exact wpAny_pure (fin h' L' sb r p)
/-- sets of keys -/
def kdX (P : Program) (w : World) (S : Addr) (h0 : Heap) : SetKd P w S h0 4000 Key Key where
  key := id
  R := SetXR P w S
  Is := fun k v => (mixKind P w).is k v = true ∧ v.scannable = true
  keep := fun h h' L ⟨⟨o, es, ep, t, ho, r⟩, nd⟩ k _ => ⟨⟨o, es, ep, t, k o ho, r⟩, nd⟩
  new := fun h e => ⟨⟨_, #[], 0, _, e, ⟨rfl, rfl, rfl⟩, rfl, .nil, (by decide), (by rfl), .nil, (by
    cases hq : w.params.followText "set-order" with
    | true => exact .inl rfl
    | false => exact .inr (by simp [hq, SetTable.fresh]))⟩, .nil⟩
  nd := fun h L r => by rw [List.map_id]; exact r.nd
  add := fun A E s L x v Q hu hk R hv hl hQ => by
    unfold setAdd
    refine wpAny_holding (wpAny_bind ((mixKind P w).pyHash hv.1 ?_))
    refine addX (s := { s with toks := s.toks + 1 }) R hv.1 hv.2 (by unfold scanBound; omega) fun b h' L' sb r c1 c2 => ?_
    exact hQ b h' _ L' sb (Nat.le_succ _) r (by simpa using c1) (by simpa using c2)
/-- sorted of a set: what comes to the sort -/
theorem sorted_pre {Q : Value → Shared → Prop} (R : SetXR P w a s.heap L) (hh : A.handled = none) (hn : L.length < 64)
    (h : ∀ (s1 : Shared) (vs : List Value) (L' : List Key), (∀ b o, s.heap.get? b = some o → s1.heap.get? b = some o) → s.heap.objs.size ≤ s1.heap.objs.size → s1.gens = s.gens → s1.os = s.os → Paired (fun v k => (mixKind P w).is k v = true) vs L' → L'.Perm L →
      (s1.heap.push (seqObj "list" vs.toArray 0)).get? s1.heap.objs.size = some (seqObj "list" vs.toArray 0) →
      ∃ T : Shared → Prop, (∀ E', wpAny (model P w) A.in1 (call (.builtin "list.sort") [.ref s1.heap.objs.size]) (fun _ s2 => T s2) E' { s1 with heap := s1.heap.push (seqObj "list" vs.toArray 0) }) ∧ ∀ s2, T s2 → Q (.ref s1.heap.objs.size) s2) :
    wpAny (model P w) A (call (.builtin "sorted") [.ref a]) Q E s := by
  obtain ⟨⟨o, es, ep, t, ho, hx, hd, pr, hb, hf, hr, hl⟩, nd⟩ := R
  refine Calls.call_function_entry kind_sorted plain_sorted entry_sorted (args_sorted1 _) ?_
  unfold Builtin.«sorted»
  refine wpAny_bind (m := checkCount "sorted" 1 1 _) (wpAny_pure ?_)
  refine wpAny_bind (collect_set (A := A.in1) hh ⟨o, ho, hx.1, hd⟩ hf hb hr hl fun s1 vs k1 hz g1 o1 pm => ?_)
  have p2 : Paired (fun v k => (mixKind P w).is k v = true) (es.toList.map (·.2)) L := by
    clear hb hf hl pm ho hd nd hn h hr
    revert pr
    generalize es.toList = l
    intro pr
    induction pr with
    | nil => exact .nil
    | cons h1 _ ih => exact .cons h1.1 ih
  obtain ⟨L', q1, q2⟩ := paired_perm pm p2
  have hvl : vs.length < 64 := by rw [q1.length, q2.length_eq]; exact hn
  refine wpAny_bind (wpAny_newList ?_ (by rw [sizeLine_eq]; omega))
  have hoL : (s1.heap.push (seqObj "list" vs.toArray 0)).get? s1.heap.objs.size = some (seqObj "list" vs.toArray 0) := Heap.get?_push_size _ rfl
  obtain ⟨T, t1, t2⟩ := h s1 vs L' k1 hz g1 o1 q1 q2 hoL
  refine wpAny_bind (wpAny_holding (thn (t1 _) fun _ s2 z => ?_))
  exact wpAny_pure ⟨_, rfl, t2 s2 z⟩
end
/-- the set of keys at a -/
def SetXO (P : Program) (w : World) (a : Addr) (L : List Key) : HO := .ext fun h => SetXR P w a h L
section
variable {X : Cx} {pins : List (Addr × Obj)} {σ : L2.St} {H : Hp} {s : Shared}
theorem setX_new {P : Program} {w : World} {h : Heap} {a : Addr} {L : List Key} (R : SetXR P w a h L) : ObjOk P w H h a (SetXO P w a L) := by
  have ⟨⟨o, _, _, _, ho, _⟩, _⟩ := R
  exact ⟨R, ⟨o, ho⟩, fun h1 h2 ⟨⟨o, es, ep, t, ho, r⟩, nd⟩ k => ⟨⟨o, es, ep, t, k o ho, r⟩, nd⟩⟩
theorem setX_get {a : Addr} {L : List Key} (I : Inv X pins σ H s) (ha : H a = some (SetXO X.prog X.w a L)) : SetXR X.prog X.w a s.heap L := (I.hok a _ ha).1
theorem vals_key {ks : List Key} {us : List Value} (r : Vals (ks.map kV) us) : ∀ (i : Nat) (v : Value), us[i]? = some v → ∃ k, ks[i]? = some k ∧ (mixKind X.prog X.w).is k v = true ∧ v.scannable = true := by
  intro i v e
  have hl := r.length
  rw [List.length_map] at hl
  have hi : i < us.length := (List.getElem?_eq_some_iff.mp e).1
  have hk : ks[i]? = some (ks[i]'(by omega)) := List.getElem?_eq_getElem (by omega)
  obtain ⟨u, e1, r1⟩ := r.get (i := i) (x := kV (ks[i]'(by omega))) (by rw [List.getElem?_map, hk]; rfl)
  rw [e] at e1; cases e1
  exact ⟨_, hk, kV_is r1, key_scan r1⟩
theorem nodup_sub {α : Type} : ∀ {l m : List α}, l.Nodup → (∀ x ∈ l, x ∈ m) → l.length ≤ m.length := by
  intro l
  induction l with
  | nil => intro m _ _; exact Nat.zero_le _
  | cons a r ih =>
    intro m h hs
    obtain ⟨h1, h2⟩ := List.nodup_cons.mp h
    obtain ⟨p, q, e⟩ := List.append_of_mem (hs a List.mem_cons_self)
    have := ih (m := p ++ q) h2 fun x hx => by
      have hm := hs x (List.mem_cons_of_mem _ hx)
      rw [e] at hm
      rcases List.mem_append.mp hm with z | z
      · exact List.mem_append_left _ z
      · rcases List.mem_cons.mp z with z | z
        · exact (h1 (z ▸ hx)).elim
        · exact List.mem_append_right _ z
    rw [e, List.length_cons]
    simp only [List.length_append, List.length_cons] at this ⊢
    omega
/-- set(xs) of ints and texts -/
def rSetX (K : PySem.W.Frag) (P : Program) (w : World) : List V → Hp → VK → Prop := fun xs H Q => ∃ (l : Addr) (ks : List Key), xs = [V.ref l] ∧ (SqL K H l (ks.map kV) ∨ SqT K H l (ks.map kV)) ∧ ks.length < 4000 ∧
  ∀ p L, H p = none → L.Nodup → (∀ k, k ∈ L ↔ k ∈ ks) → Q (.ref p) (upd H p (SetXO P w p L))
theorem cr_setX (hc : X.calm = true) (hu : X.A.units + 64 < cLine) : CallR X (.type "set") (rSetX X.K X.prog X.w) := by
  intro pins s σ H xs us Q I r h
  obtain ⟨l, ks, rfl, sq, hl, q⟩ := h
  rw [Vals.ref1 r]
  have fin : ∀ (h' : Heap) (tk : Nat) (L : List Key), (kdX X.prog X.w s.heap.objs.size s.heap).R h' L → Has (kdX X.prog X.w s.heap.objs.size s.heap).key ks ks.length L → (∀ b o, s.heap.get? b = some o → h'.get? b = some o) → EP X pins σ Q (.ref s.heap.objs.size) { s with heap := h', toks := tk } := by
    intro h' tk L hR g kp
    refine ⟨.ref _, upd H s.heap.objs.size (SetXO X.prog X.w s.heap.objs.size L), I.laid (t' := tk) kp (Nat.le_refl _) (setX_new hR), rfl, q _ L (I.hok.fresh (Nat.le_refl _)) hR.nd fun k => ⟨fun hk => ?_, fun hk => ?_⟩⟩
    · exact List.mem_of_mem_take (g.sub k hk)
    · have := g.all k (by rw [List.take_length]; exact hk)
      simpa [kdX] using this
  have few : ∀ L : List Key, (L.map (kdX X.prog X.w s.heap.objs.size s.heap).key).Nodup → (∀ x ∈ L, x ∈ ks) → L.length < 4000 := fun L nd sub => by
    have nd' : L.Nodup := by simpa [kdX] using nd
    exact Nat.lt_of_le_of_lt (nodup_sub nd' sub) hl
  rcases sq with sq | sq
  · obtain ⟨its, rv, pl, hz⟩ := I.list sq
    refine mk_set_list ks (kdX X.prog X.w s.heap.objs.size s.heap) (I.ok.hd hc) pl.isList (by rw [List.size_toArray, ← rv.length, List.length_map]) (fun i v e => ?_) few (by omega) fin
    exact vals_key (X := X) rv i v (by simpa using e)
  · obtain ⟨its, rv, pl, hz⟩ := I.tuple sq
    refine mk_set_tuple ks (kdX X.prog X.w s.heap.objs.size s.heap) (I.ok.hd hc) (show s.heap.IsTuple l its.toArray from pl) (by rw [List.size_toArray, ← rv.length, List.length_map]) (fun i v e => ?_) few (by omega) fin
    exact vals_key (X := X) rv i v (by simpa using e)
theorem inv_after {s' : Shared} {p : Addr} {vs : List V} {us : List Value} {c : Nat} (I : Inv X pins σ H s) (k : ∀ b o, s.heap.get? b = some o → s'.heap.get? b = some o) (g : s'.gens = s.gens) (o : s'.os = s.os) (hp : s.heap.objs.size ≤ p)
    (hg : s'.heap.get? p = some (seqObj "list" us.toArray c)) (hv : Vals vs us) (hl : vs.length ≤ sizeLine) : Inv X pins σ (upd H p (.lst vs)) s' := by
  have hn : H p = none := I.hok.fresh hp
  have J : Inv X pins σ (upd H p (.lst vs)) { s with heap := s'.heap, gens := s'.gens, drawn := s'.drawn, toks := s'.toks } :=
    I.call (ch := []) (Un.laid k hp hn) (I.hok.laid k hp ⟨hl, us, c, hv, hg⟩) (by rw [g]; exact I.bare) (fun _ z => nomatch z)
  have e : s' = { s with heap := s'.heap, gens := s'.gens, drawn := s'.drawn, toks := s'.toks } := by
    cases s'
    cases s
    cases o
    rfl
  rw [e]
  exact J
theorem push_keep {s1 : Shared} {vs : List Value} {out : Array Value} (k1 : ∀ b o, s.heap.get? b = some o → s1.heap.get? b = some o) : ∀ b o, s.heap.get? b = some o → (sortedHeap (s1.heap.push (seqObj "list" vs.toArray 0)) s1.heap.objs.size vs out).get? b = some o := by
  intro b u e
  have q := k1 b u e
  have hlt := Heap.lt_size q
  rw [sortedHeap_old (Nat.ne_of_lt hlt) (by rw [size_push']; exact Nat.lt_succ_of_lt hlt)]
  exact Heap.get?_push_of_some _ q
theorem keys_ints {P : Program} {w : World} : ∀ {vs : List Value} {L : List Key} {ns : List Int}, Paired (fun v k => (mixKind P w).is k v = true) vs L → L = ns.map Sum.inl → IntsAre vs ns
  | _, _, [], .nil, _ => .nil
  | _, _, [], .cons _ _, e => by cases e
  | _, _, n :: ns, .nil, e => by cases e
  | _, _, n :: ns, .cons h t, e => by
    simp only [List.map_cons, List.cons.injEq] at e
    obtain ⟨rfl, e2⟩ := e
    rcases keyIs_shape (show keyIs (Sum.inl n) _ = true from h) with ⟨i, tk, e3, rfl⟩ | ⟨x, tk, e3, rfl⟩
    · cases e3; exact .cons _ _ (keys_ints t e2)
    · cases e3
theorem keys_strs {P : Program} {w : World} : ∀ {vs : List Value} {L : List Key} {ns : List Str}, Paired (fun v k => (mixKind P w).is k v = true) vs L → L = ns.map Sum.inr → StrsAre vs ns
  | _, _, [], .nil, _ => .nil
  | _, _, [], .cons _ _, e => by cases e
  | _, _, n :: ns, .nil, e => by cases e
  | _, _, n :: ns, .cons h t, e => by
    simp only [List.map_cons, List.cons.injEq] at e
    obtain ⟨rfl, e2⟩ := e
    rcases keyIs_shape (show keyIs (Sum.inr n) _ = true from h) with ⟨i, tk, e3, rfl⟩ | ⟨x, tk, e3, rfl⟩
    · cases e3
    · cases e3; exact .cons _ _ (keys_strs t e2)
theorem perm_map_inv {α β : Type} {f : α → β} {l : List β} {m : List α} (p : l.Perm (m.map f)) : ∃ m' : List α, l = m'.map f ∧ m'.Perm m := by
  have hp : ∀ b ∈ l, ∃ a, f a = b := fun b hb => by
    obtain ⟨a, _, e⟩ := List.mem_map.mp (p.mem_iff.mp hb)
    exact ⟨a, e⟩
  have q : Paired (fun b a => f a = b) (m.map f) m := by
    clear p hp
    induction m with
    | nil => exact .nil
    | cons a r ih => exact .cons rfl ih
  obtain ⟨m', g1, g2⟩ := paired_perm p q
  refine ⟨m', ?_, g2⟩
  clear p hp q g2
  induction g1 with
  | nil => rfl
  | cons h _ ih => rw [List.map_cons, h, ← ih]
/-- sorted of a set of ints, of texts -/
def rSortX (P : Program) (w : World) : List V → Hp → VK → Prop := fun xs H Q => ∃ (a : Addr) (L : List Key), xs = [V.ref a] ∧ H a = some (SetXO P w a L) ∧ L.length < 64 ∧
  ((∃ ns : List Int, L = ns.map Sum.inl ∧ ∀ (ys : List Int) (p : Addr), ys.Perm ns → ys.Pairwise (· ≤ ·) → H p = none → Q (.ref p) (upd H p (.lst (ys.map V.int)))) ∨
    ∃ ss : List Str, L = ss.map Sum.inr ∧ ∀ (ys : List Str) (p : Addr), ys.Perm ss → sortedS ys = true → H p = none → Q (.ref p) (upd H p (.lst (ys.map V.str))))
theorem cr_sortX (hc : X.calm = true) : CallR X (.builtin "sorted") (rSortX X.prog X.w) := by
  intro pins s σ H vs us Q I r h
  obtain ⟨a, L, rfl, ha, h64, q⟩ := h
  have R := setX_get I ha
  rw [Vals.ref1 r]
  refine sorted_pre R (I.ok.hd hc) h64 fun s1 vs L' k1 hz g1 o1 p1 p2 hoL => ?_
  have hvl : vs.length < 64 := by rw [p1.length, p2.length_eq]; exact h64
  rcases q with ⟨ns, e, q⟩ | ⟨ss, e, q⟩
  · subst e
    obtain ⟨ns', e', pn⟩ := perm_map_inv p2
    have hI := keys_ints p1 e'
    refine ⟨fun s2 => ∃ (out : Array Value) (ys : List Int), IntsAre out.toList ys ∧ ys.Perm ns ∧ ys.Pairwise (· ≤ ·) ∧ s2 = { s1 with heap := sortedHeap (s1.heap.push (seqObj "list" vs.toArray 0)) s1.heap.objs.size vs out }, fun E' => ?_, ?_⟩
    · exact wpAny_call_entry slot_list_sort ⟨_, hoL, rfl⟩ entry_list_sort (list_sort_tree hoL hI hvl fun out ys a1 a2 a3 => ⟨_, rfl, out, ys, a1, a2.trans pn, a3, rfl⟩) (args_list_sort _)
    · rintro s2 ⟨out, ys, a1, a2, a3, rfl⟩
      obtain ⟨c, hc'⟩ := sortedHeap_at (vs := vs) (out := out) hoL
      have hn : H s1.heap.objs.size = none := I.hok.fresh hz
      exact ⟨.ref s1.heap.objs.size, _, inv_after (s' := { s1 with heap := sortedHeap (s1.heap.push (seqObj "list" vs.toArray 0)) s1.heap.objs.size vs out }) I (push_keep k1) g1 o1 hz (by rw [← Array.toArray_toList (xs := out)] at hc'; exact hc') (vals_of_ints a1) (by rw [List.length_map, a2.length_eq, sizeLine_eq]; rw [List.length_map] at h64; omega), rfl, q ys _ a2 a3 hn⟩
  · subst e
    obtain ⟨ns', e', pn⟩ := perm_map_inv p2
    have hI := keys_strs p1 e'
    refine ⟨fun s2 => ∃ (out : Array Value) (ys : List Str), StrsAre out.toList ys ∧ ys.Perm ss ∧ sortedS ys = true ∧ s2 = { s1 with heap := sortedHeap (s1.heap.push (seqObj "list" vs.toArray 0)) s1.heap.objs.size vs out }, fun E' => ?_, ?_⟩
    · refine wpAny_call_entry slot_list_sort ⟨_, hoL, rfl⟩ entry_list_sort (list_sort_treeK strKind_oneLt (s := { s1 with heap := s1.heap.push (seqObj "list" vs.toArray 0) }) hoL hI.keysOf (fun v₁ v₂ rest e => keyKind_strs (by rw [← e]; exact hI)) hvl fun st' hp hs => ⟨_, rfl, ?_⟩) (args_list_sort _)
      obtain ⟨ys, a1, a2, a3⟩ := sorted_out_str hI hp hs
      exact ⟨_, ys, a1, a2.trans pn, a3, rfl⟩
    · rintro s2 ⟨out, ys, a1, a2, a3, rfl⟩
      obtain ⟨c, hc'⟩ := sortedHeap_at (vs := vs) (out := out) hoL
      have hn : H s1.heap.objs.size = none := I.hok.fresh hz
      exact ⟨.ref s1.heap.objs.size, _, inv_after (s' := { s1 with heap := sortedHeap (s1.heap.push (seqObj "list" vs.toArray 0)) s1.heap.objs.size vs out }) I (push_keep k1) g1 o1 hz (by rw [← Array.toArray_toList (xs := out)] at hc'; exact hc') (vals_of_strs a1) (by rw [List.length_map, a2.length_eq, sizeLine_eq]; rw [List.length_map] at h64; omega), rfl, q ys _ a2 a3 hn⟩
end
end MT
end
section
set_option Elab.async false
set_option linter.all false
set_option maxRecDepth 100000
set_option maxHeartbeats 4000000
/-! MtW: sorted(set(a)), len(set(a)), a[::-1], min(a, b), a.index(b), by data. -/
namespace MT
open PySem PySem.Spec L2 PyProof.Rows
section
variable [Pw] {c : Cn} {M : List Nat} {X : Cx} {pos : Pos}
theorem pe_u1D {u : U1} {x : Expr} {ca : E} (h : PE X x (fun σ H Q => tE c M ca σ H fun v H1 => rD1 c.K (u1D u) v H1 Q)) : PE X x (tE c M (.u1 u ca)) := by
  refine h.imp fun σ H Q ⟨H0, Oc, Ts, ρ, env, r⟩ => ?_
  simp only [ev] at r
  refine tE_step (Same.refl H) env r fun v H1 d1 s1 v1 env1 r1 => ?_
  obtain ⟨d, e, k⟩ := r1.nx (nx_u1 _ _)
  exact ⟨_, d1, d, env1.alloc, v1.rb, e, fun v H' s nw => k v H' (s1.trans s) (Vok.of rfl s1 nw)⟩
theorem nx_guard (b : Bool) : NX (R.guard b) := by cases b <;> first | exact NX.ok _ | exact NX.no
theorem pe_u2D {u : U2} {x : Expr} {ca cb : E} (h : PE X x (fun σ H Q => tE c M ca σ H fun v H1 => tE c M cb σ H1 fun y H2 => rD2 c.K (u2D u) v y H2 Q)) : PE X x (tE c M (.u2 u ca cb)) := by
  refine h.imp fun σ H Q ⟨H0, Oc, Ts, ρ, env, r⟩ => ?_
  simp only [ev] at r
  refine tE_step (Same.refl H) env r fun v H1 d1 s1 v1 env1 r1 => ?_
  obtain ⟨_, _, r1⟩ := (Run.bind.mp r1).nx (nx_guard _)
  refine tE_step s1 env1 r1 fun y H2 d2 s2 v2 env2 r2 => ?_
  obtain ⟨d, e, k⟩ := r2.nx (nx_u2 _ _ _)
  exact ⟨_, d1, d2, d, env2.alloc, Rb.same s2 v1.rb, v2.rb, e, fun v H' s nw => k v H' (s1.trans (s2.trans s)) (Vok.of rfl (s1.trans s2) nw)⟩
/-! ### each once -/
omit [Pw] in
theorem ddS_mem {α : Type} [DecidableEq α] : ∀ (l : List α) (x : α), x ∈ ddS l ↔ x ∈ l
  | [], x => Iff.rfl
  | a :: r, x => by
    unfold ddS
    split
    · rename_i h
      rw [ddS_mem r x, List.mem_cons]
      exact ⟨.inr, fun z => z.elim (fun e => e ▸ h) id⟩
    · rw [List.mem_cons, List.mem_cons, ddS_mem r x]
omit [Pw] in
theorem ddS_nodup {α : Type} [DecidableEq α] : ∀ (l : List α), (ddS l).Nodup
  | [] => .nil
  | a :: r => by
    unfold ddS
    split
    · exact ddS_nodup r
    · rename_i h
      exact List.nodup_cons.mpr ⟨fun z => h ((ddS_mem r a).mp z), ddS_nodup r⟩
omit [Pw] in
theorem perm_dd {α : Type} [DecidableEq α] {l m : List α} (nd : l.Nodup) (h : ∀ x, x ∈ l ↔ x ∈ m) : l.Perm (ddS m) := (List.perm_ext_iff_of_nodup nd (ddS_nodup m)).mpr fun x => (h x).trans (ddS_mem m x).symm
omit [Pw] in
theorem insI_perm (x : Int) : ∀ l : List Int, (insI x l).Perm (x :: l)
  | [] => .refl _
  | y :: r => by
    unfold insI
    split
    · exact (List.Perm.cons y (insI_perm x r)).trans (List.Perm.swap x y r)
    · exact .refl _
omit [Pw] in
theorem sortI_perm : ∀ l : List Int, (sortI l).Perm l
  | [] => .refl _
  | x :: r => (insI_perm x _).trans (List.Perm.cons x (sortI_perm r))
omit [Pw] in
theorem insI_pw (x : Int) : ∀ l : List Int, l.Pairwise (· ≤ ·) → (insI x l).Pairwise (· ≤ ·)
  | [], _ => by simp [insI]
  | y :: r, h => by
    obtain ⟨h1, h2⟩ := List.pairwise_cons.mp h
    unfold insI
    split
    · rename_i hl
      refine List.pairwise_cons.mpr ⟨fun z hz => ?_, insI_pw x r h2⟩
      rcases List.mem_cons.mp ((insI_perm x r).mem_iff.mp hz) with rfl | hz
      · omega
      · exact h1 z hz
    · rename_i hl
      refine List.pairwise_cons.mpr ⟨fun z hz => ?_, h⟩
      rcases List.mem_cons.mp hz with rfl | hz
      · omega
      · have := h1 z hz; omega
omit [Pw] in
theorem sortI_pw : ∀ l : List Int, (sortI l).Pairwise (· ≤ ·)
  | [] => .nil
  | x :: r => insI_pw x _ (sortI_pw r)
omit [Pw] in
theorem sortedI_is {ys ns : List Int} (p : ys.Perm ns) (h : ys.Pairwise (· ≤ ·)) : ys = sortI ns :=
  List.Perm.eq_of_pairwise (fun a b _ _ h1 h2 => Int.le_antisymm h1 h2) h (sortI_pw ns) (p.trans (sortI_perm ns).symm)
theorem ints_vals {K : PySem.W.Frag} {H : Hp} {O : Addr → Prop} : ∀ {ds : List D} {vs : List V} {ns : List Int}, Rps K H O ds vs → intsO ds = some ns → vs = ns.map V.int ∧ ds = ns.map .int
  | [], vs, ns, r, h => by rw [r.inv0]; simp [intsO] at h; subst h; exact ⟨rfl, rfl⟩
  | d :: ds, vs, ns, r, h => by
    obtain ⟨v, w, rfl, q, t⟩ := r.inv
    cases d with
    | int i =>
      simp only [intsO, Option.map_eq_some_iff] at h
      obtain ⟨l, h1, rfl⟩ := h
      obtain ⟨e1, e2⟩ := ints_vals t h1
      have : v = .int i := q
      exact ⟨by rw [this, e1]; rfl, by rw [e2]; rfl⟩
    | _ => simp [intsO] at h
theorem rps_ints {K : PySem.W.Frag} {H : Hp} {O : Addr → Prop} : ∀ ns : List Int, Rps K H O (ns.map .int) (ns.map V.int)
  | [] => Rps.nil
  | n :: ns => Rps.cons rfl (rps_ints ns)
omit [Pw] in
theorem boot_set : bootBuiltins "set" = some (.type "set") := by decide +kernel
omit [Pw] in
theorem boot_sorted : bootBuiltins "sorted" = some (.builtin "sorted") := by decide +kernel
omit [Pw] in
theorem boot_lenB : bootBuiltins "len" = some (.builtin "len") := by decide +kernel
omit [Pw] in
theorem boot_min : bootBuiltins "min" = some (.builtin "min") := by decide +kernel
omit [Pw] in
theorem toS_map_perm {l : List Key} {ss : List (List Nat)} (nd : l.Nodup) (h : ∀ k, k ∈ l ↔ k ∈ (ss.map toS).map Sum.inr) : ∃ ts : List (List Nat), l = (ts.map toS).map Sum.inr ∧ ts.Perm (ddS ss) := by
  have inj : ∀ a b : List Nat, (Sum.inr (toS a) : Key) = Sum.inr (toS b) → a = b := fun a b e => toS_inj (by injection e)
  have nd2 : (((ddS ss).map toS).map (Sum.inr : Str → Key)).Nodup := by
    rw [List.map_map]
    exact List.Pairwise.map _ (fun a b hab e => hab (inj a b e)) (ddS_nodup ss)
  have p : l.Perm ((ddS ss).map fun z => (Sum.inr (toS z) : Key)) := by
    rw [List.map_map] at nd2
    refine (List.perm_ext_iff_of_nodup nd nd2).mpr fun k => (h k).trans ?_
    rw [List.map_map]
    simp only [List.mem_map, Function.comp, ddS_mem]
  obtain ⟨m, e, q⟩ := perm_map_inv p
  exact ⟨m, by rw [e, List.map_map]; rfl, q⟩
omit [Pw] in
theorem ints_map_perm {l : List Key} {ns : List Int} (nd : l.Nodup) (h : ∀ k, k ∈ l ↔ k ∈ ns.map (Sum.inl : Int → Key)) : ∃ ts : List Int, l = ts.map Sum.inl ∧ ts.Perm (ddS ns) := by
  have nd2 : ((ddS ns).map (Sum.inl : Int → Key)).Nodup := List.Pairwise.map _ (fun a b hab e => hab (by injection e)) (ddS_nodup ns)
  have p : l.Perm ((ddS ns).map fun z => (Sum.inl z : Key)) := by
    refine (List.perm_ext_iff_of_nodup nd nd2).mpr fun k => (h k).trans ?_
    simp only [List.mem_map, ddS_mem]
  obtain ⟨m, e, q⟩ := perm_map_inv p
  exact ⟨m, e, q⟩
omit [Pw] in
theorem ddS_len {α : Type} [DecidableEq α] : ∀ (l : List α), (ddS l).length ≤ l.length
  | [] => Nat.le_refl _
  | a :: r => by
    have := ddS_len r
    unfold ddS
    split <;> simp <;> omega
omit [Pw] in
theorem ssetX_ok {xs : List D} {d : D} (h : ssetX0 xs = .ok d) : (∃ ns, intsO xs = some ns ∧ ns.length < 64 ∧ d = .lst ((sortI (ddS ns)).map .int)) ∨ ∃ ss, strsO xs = some ss ∧ ss.length < 64 ∧ d = .lst ((sortS (ddS ss)).map .str) := by
  unfold ssetX0 at h
  cases h1 : intsO xs with
  | some ns =>
    rw [h1] at h
    dsimp only at h
    split at h
    · cases h; exact .inl ⟨ns, rfl, by assumption, rfl⟩
    · cases h
  | none =>
    rw [h1] at h
    cases h2 : strsO xs with
    | none => rw [h2] at h; cases h
    | some ss =>
      rw [h2] at h
      dsimp only at h
      split at h
      · cases h; exact .inr ⟨ss, rfl, by assumption, rfl⟩
      · cases h
/-- what the set's own steps make of the data -/
theorem sset_core {H : Hp} {O : Addr → Prop} {xs : List D} {vs : List V} {d : D} {l : Addr} {Q : VK} (al : AllocO O H) (rr : Rps X.K H O xs vs) (sq : SqL X.K H l vs ∨ SqT X.K H l vs) (e : ssetX0 xs = .ok d) (q : ∀ v H', Same H H' → Nw X.K H H' O d v → Q v H') :
    rSetX X.K X.prog X.w [.ref l] H fun w H2 => rSortX X.prog X.w [w] H2 Q := by
  rcases ssetX_ok e with ⟨ns, hi, h64, rfl⟩ | ⟨ss, hi, h64, rfl⟩
  · obtain ⟨ev, ed⟩ := ints_vals rr hi
    subst ev
    have em : ns.map V.int = (ns.map (Sum.inl : Int → Key)).map kV := by rw [List.map_map]; rfl
    rw [em] at sq
    refine ⟨l, ns.map Sum.inl, rfl, sq, by rw [List.length_map]; omega, fun p L hp nd hL => ?_⟩
    obtain ⟨ts, rfl, pt⟩ := ints_map_perm nd hL
    refine ⟨p, _, rfl, upd_same, ?_, .inl ⟨ts, rfl, fun ys p2 py pw hp2 => ?_⟩⟩
    · rw [List.length_map, pt.length_eq]; exact Nat.lt_of_le_of_lt (ddS_len ns) h64
    · rw [sortedI_is (py.trans pt) pw]
      have s1 := Same.new (o := SetXO X.prog X.w p (ts.map Sum.inl)) hp
      refine q _ _ (s1.trans (Same.new hp2)) ?_
      have nw : Nw X.K (upd H p (SetXO X.prog X.w p (ts.map Sum.inl))) _ O (.lst ((sortI (ddS ns)).map .int)) (.ref p2) := nw_lst (fun a z hn => by
          by_cases hap : a = p
          · rw [hap, upd_same] at hn; cases hn
          · rw [upd_ne hap] at hn; exact al a z hn) hp2 (by rw [List.length_map, (sortI_perm _).length_eq]; exact Nat.le_trans (ddS_len ns) (Nat.le_trans (Nat.le_of_lt h64) (by decide))) (rps_ints _)
      exact ⟨nw.1, fun hm => by obtain ⟨a, e1, e2, e3⟩ := nw.2 hm; exact ⟨a, e1, s1.free e2, e3⟩⟩
  · obtain ⟨ev, ed, hok⟩ := rr.strs hi
    subst ev
    have em : (ss.map toS).map V.str = ((ss.map toS).map (Sum.inr : Str → Key)).map kV := by rw [List.map_map, List.map_map, List.map_map]; rfl
    rw [em] at sq
    refine ⟨l, (ss.map toS).map Sum.inr, rfl, sq, by rw [List.length_map, List.length_map]; omega, fun p L hp nd hL => ?_⟩
    obtain ⟨ts, rfl, pt⟩ := toS_map_perm nd hL
    refine ⟨p, _, rfl, upd_same, ?_, .inr ⟨ts.map toS, rfl, fun ys p2 py pw hp2 => ?_⟩⟩
    · rw [List.length_map, List.length_map, pt.length_eq]; exact Nat.lt_of_le_of_lt (ddS_len ss) h64
    · rw [sorted_is (py.trans (pt.map toS)) pw]
      have s1 := Same.new (o := SetXO X.prog X.w p ((ts.map toS).map Sum.inr)) hp
      refine q _ _ (s1.trans (Same.new hp2)) ?_
      have nw : Nw X.K (upd H p (SetXO X.prog X.w p ((ts.map toS).map Sum.inr))) _ O (.lst ((sortS (ddS ss)).map .str)) (.ref p2) := nw_strs (fun a z hn => by
          by_cases hap : a = p
          · rw [hap, upd_same] at hn; cases hn
          · rw [upd_ne hap] at hn; exact al a z hn) hp2 (Nat.lt_of_le_of_lt (ddS_len ss) h64) (fun s hs => hok s ((ddS_mem ss s).mp hs))
      exact ⟨nw.1, fun hm => by obtain ⟨a, e1, e2, e3⟩ := nw.2 hm; exact ⟨a, e1, s1.free e2, e3⟩⟩
/-! ### len(set(a)) -/
theorem cr_lenX : CallR X (.builtin "len") (fun xs H Q => ∃ (a : Addr) (L : List Key), xs = [V.ref a] ∧ H a = some (SetXO X.prog X.w a L) ∧ Q (.int (L.length : Nat)) H) := by
  intro pins s σ H vs us Q I r h
  obtain ⟨a, L, rfl, ha, q⟩ := h
  have R := setX_get I ha
  rw [Vals.ref1 r]
  obtain ⟨⟨o, es, ep, t, ho, hx, hd, pr, hb, hf, hr, hl⟩, nd⟩ := R
  have hz : es.size = L.length := by rw [← Array.length_toList]; exact pr.length
  refine call_len_set ho hx hd hf (by have : scanBound = 4096 := rfl; omega) ⟨.int (L.length : Nat), H, I.tok _, ⟨s.toks + 1, by rw [hz]⟩, q⟩
theorem pe_lsetD {a : Expr} {ca : E} {p p2 q : Pos} (hK : X.K = c.K) (hc : X.calm = true) (hu : X.A.units + 64 < cLine) (hg : Gl X "len") (hm : X.mg "len" = none) (hg2 : Gl X "set") (hm2 : X.mg "set" = none) (ha : PE X a (tE c M ca)) (hs : NoStar X a) :
    PE X (.Call (.Name "len" p) [.Call (.Name "set" p2) [a] [] q] [] pos) (tE c M (.u1 .lset ca)) := by
  have pset := pe_callTy (p := p2) (pos := q) (cr_setX hc hu) hg2 hm2 boot_set (pa_cons ha pa_nil (hs _)) (by decide +kernel) (by decide +kernel) (hs _)
  refine (pe_callB cr_lenX hg hm boot_lenB (pa_cons pset pa_nil rfl) (by decide +kernel) (by decide +kernel) rfl).imp fun σ H Q ⟨H0, Oc, Ts, ρ, env, r⟩ => ?_
  simp only [ev] at r
  refine tE_step (Same.refl H) env r fun v H1 d1 s1 v1 env1 r1 => ?_
  obtain ⟨d, e, k⟩ := r1.nx (nx_u1 _ _)
  have v1' := v1.rb
  rw [← hK] at v1'
  cases d1 with
  | lst xs =>
    obtain ⟨l, vs, rfl, sq, _, rr⟩ := rb_lst v1'
    simp only [u1D] at e
    cases hi : strsO xs with
    | none => rw [hi] at e; cases e
    | some ss =>
      rw [hi] at e
      simp only [ofO, ok_bind] at e
      split at e
      · rename_i h64
        cases e
        obtain ⟨ev, ed, hok⟩ := rr.strs hi
        subst ev
        have sq' := SqL.of (K := X.K) sq
        have em : (ss.map toS).map V.str = ((ss.map toS).map (Sum.inr : Str → Key)).map kV := by rw [List.map_map, List.map_map, List.map_map]; rfl
        rw [em] at sq'
        refine ⟨l, (ss.map toS).map Sum.inr, rfl, .inl sq', by rw [List.length_map, List.length_map]; omega, fun p L hp nd hL => ?_⟩
        obtain ⟨ts, rfl, pt⟩ := toS_map_perm nd hL
        refine ⟨p, _, rfl, upd_same, ?_⟩
        rw [List.length_map, List.length_map, pt.length_eq]
        exact k _ _ (s1.trans (Same.new hp)) (Vok.sc rfl rfl rfl)
      · cases e
  | _ => cases e
/-! ### min(a, b) -/
theorem pe_minD {a b : Expr} {ca cb : E} {p : Pos} (hc : X.calm = true) (hg : Gl X "min") (hm : X.mg "min" = none) (ha : PE X a (tE c M ca)) (hb : PE X b (tE c M cb)) (sa : NoStar X a) (sb : NoStar X b) : PE X (.Call (.Name "min" p) [a, b] [] pos) (tE c M (.u2 .min ca cb)) := by
  refine pe_u2D ((pe_callB (call_min2 hc) hg hm boot_min (pa_cons ha (pa_cons hb pa_nil (sb _)) (sa _)) (by decide +kernel) (by decide +kernel) (sa _) (by rw [sb]; rfl)).imp fun σ H Q ⟨H0, Oc, Ts, ρ, env, r⟩ => ?_)
  refine ⟨H0, Oc, Ts, ρ, env, r.mono (fun d1 k v H1 s1 vk => ?_) fun _ z => z⟩
  obtain ⟨H0', Oc', Ts', ρ', env', r'⟩ := k v H1 s1 vk
  refine ⟨H0', Oc', Ts', ρ', env', r'.mono (fun d2 k2 y H2 s2 vk2 => ?_) fun _ z => z⟩
  obtain ⟨O, e1, e2, d, al, q1, q2, e, q⟩ := k2 y H2 s2 vk2
  cases e1 with
  | int i =>
    cases e2 with
    | int j =>
      cases e
      exact ⟨i, j, by rw [rb_int q1, rb_int q2], q _ _ (Same.refl H2) (nw_int _)⟩
    | _ => cases e
  | _ => cases e2 <;> cases e
/-! ### a.index(b) -/
omit [Pw] in
theorem tix_at : ∀ (xs : List D) (x : D) (k n : Nat), tixX x k xs = some n → ∃ j z, n = k + j ∧ xs[j]? = some z ∧ eqD z x = true ∧ ∀ m z', m < j → xs[m]? = some z' → eqD z' x = false
  | [], x, k, n, h => by cases h
  | d :: r, x, k, n, h => by
    unfold tixX at h
    split at h
    · rename_i hd
      cases h
      exact ⟨0, d, rfl, rfl, hd, fun m z' hm => by omega⟩
    · rename_i hd
      obtain ⟨j, z, e, h1, h2, h3⟩ := tix_at r x (k + 1) n h
      refine ⟨j + 1, z, by omega, by simpa using h1, h2, fun m z' hm hz => ?_⟩
      cases m with
      | zero => simp at hz; subst hz; simpa using hd
      | succ m => exact h3 m z' (by omega) (by simpa using hz)
theorem call_tix {pins : List (Addr × Obj)} {σ : L2.St} {H : Hp} {s : Shared} {a : Addr} {ys : List V} {y z : V} {u : Value} {j : Nat} {Q : Value → Shared → Prop} {E : Value → Shared → Prop} {A : Around} (I : Inv X pins σ H s) (sq : SqT X.K H a ys) (ry : RelV y u) (fy : flatV y = true) (fys : ys.all flatV = true) (hz : ys[j]? = some z) (hj : eqV z y = true)
    (hno : ∀ (m : Nat) (z' : V), m < j → ys[m]? = some z' → eqV z' y = false) (q : ∀ k s', Inv X pins σ H s' → Q (.int (j : Nat) k) s') : wpAny (model X.prog X.w) A (call (.builtin "tuple.index") [.ref a, u]) Q E s := by
  obtain ⟨its, rv, ⟨⟨oc, od, oda, osl⟩, ho, hc, n, hd⟩, hlen⟩ := I.tuple sq
  simp only at hc hd
  subst hc hd
  obtain ⟨w, hw, rw'⟩ := rv.get hz
  obtain ⟨hjl, hje⟩ := List.getElem?_eq_some_iff.mp hw
  have hvl := rv.length
  refine call_meets PySem.F.slot_tuple_index ⟨_, ho, rfl⟩ PySem.F.entry_tuple_index (PySem.F.args_tuple_index_2 _ _) (TI.tuple_indexAt a its.toArray n od osl u (eqU y) j (by simpa using hjl) ?_ ?_) ⟨ho, fun w' hw' => mem_eqAt ry fy rv fys w' (by simpa using hw'), q _ _ (I.tok _)⟩
  · have e1 : its.toArray[j]'(by simpa using hjl) = w := by simpa using hje
    rw [e1, eqU_of rw' (flat_at fys hz)]
    exact hj
  · intro m hm hmj
    have hml : m < its.length := by simpa using hm
    have hmy : m < ys.length := by omega
    have hy' : ys[m]? = some ys[m] := List.getElem?_eq_getElem hmy
    obtain ⟨u2, hu2, ru2⟩ := rv.get hy'
    have e1 : its.toArray[m]'hm = u2 := by
      have := (List.getElem?_eq_some_iff.mp hu2).2
      simpa using this
    rw [e1, eqU_of ru2 (flat_at fys hy')]
    exact hno m _ hmj hy'
theorem pe_tixD {o a : Expr} {co ca : E} {apos : Pos} (hK : X.K = c.K) (ho : PE X o (tE c M co)) (ha : PE X a (tE c M ca)) (hs : NoStar X a) (hb : attributeBase o "index" X.env (eval o X.env) = eval o X.env) (hl : (apos.endLine == pos.line) = true) :
    PE X (.Call (.Attribute o "index" apos) [a] [] pos) (tE c M (.u2 .tix co ca)) := by
  refine ⟨fun pins s σ H Q I ⟨H0, Oc, Ts, ρ, env, r⟩ => ?_⟩
  simp only [ev] at r
  have few : ((backTo pos (starEach [a] X.env)).all (fun x => !x.1) && (backToKw pos (keywordEach [] X.env)).all (fun x => x.1.isSome) && decide (([a] : List Expr).length + ([] : List Keyword).length + (if ([] : List Keyword).isEmpty then 0 else 1) < 30)) = true := by
    rw [hs []]; rfl
  refine wpAny_Call_method hb few hl PySem.F.plainAttrs_tuple PySem.F.slot_tuple_index PySem.F.type_tuple_index (thn (ho.run pins s σ H (fun v H1 => ∃ d1, Same H H1 ∧ Vok c M co (Ow Oc M σ) H H1 d1 v ∧ EnvOk c.K H0 Oc M Ts σ H1 ρ ∧ (∃ xs, d1 = .tup xs) ∧
      Run (do let y ← ev c.F ca ρ; u2D .tix d1 y) (fun d => ∀ v H', Same H H' → Vok c M (.u2 .tix co ca) (Ow Oc M σ) H H' d v → Q v H') (XW c H)) I
    (tE_step (Same.refl H) env r fun v H1 d1 s1 v1 env1 r1 => (by
      obtain ⟨_, hg, r1⟩ := (Run.bind.mp r1).nx (nx_guard _)
      refine ⟨d1, s1, v1, env1, ?_, r1⟩
      cases d1 with
      | tup xs => exact ⟨xs, rfl⟩
      | _ => cases hg))) fun u s1 ⟨x, H1, I1, rx, d1, sm, v1, env1, ⟨xs, ex⟩, r1⟩ => ?_)
  · subst ex
    have v1' := v1.rb
    rw [← hK] at v1'
    obtain ⟨a', vs, rfl, sq, hlen, rr, nd⟩ := rb_tupN v1'
    obtain rfl : u = Value.ref a' := rx
    have hT : s1.TypeIs (.ref a') "tuple" := by
      obtain ⟨its, _, ⟨o, ho', hc', _⟩, _⟩ := I1.tuple sq
      exact ⟨o, ho', hc'⟩
    refine ⟨hT, fun b e => by cases e; exact nd.at I1, ?_⟩
    rw [trees_of hs]
    refine Calls.callWith_builtin rfl (Calls.evalArgs_plain (Calls.spliced_cons (thn (ha.run pins s1 σ H1 _ I1 (tE_step sm env1 r1 fun y H2 d2 s2 v2 env2 r2 => (⟨d2, s2, v2, env2, r2⟩ : ∃ d2, Same H1 H2 ∧ Vok c M ca (Ow Oc M σ) H1 H2 d2 y ∧ EnvOk c.K H0 Oc M Ts σ H2 ρ ∧ Run (u2D .tix (.tup xs) d2) _ _))) fun w s2 ⟨y, H2, I2, ry, d2, s2', v2, env2, r2⟩ => Calls.spliced_nil ?_)))
    obtain ⟨d, e, k⟩ := r2.nx (nx_u2 _ _ _)
    simp only [u2D] at e
    split at e
    · rename_i hsc
      rw [Bool.and_eq_true] at hsc
      obtain ⟨n, e1⟩ : ∃ n, tixX d2 0 xs = some n := by
        cases hn : tixX d2 0 xs with
        | none => rw [hn] at e; cases e
        | some n => exact ⟨n, rfl⟩
      rw [e1] at e
      cases e
      obtain ⟨j, z, ej, h1, h2, h3⟩ := tix_at xs d2 0 n e1
      have rr2 := Rps.step (Stp.same s2') _ _ rr
      have v2' := v2.rb
      rw [← hK] at v2'
      obtain ⟨k1, k2⟩ := scs_V v2' hsc.1 rr2 hsc.2
      obtain ⟨zv, g1, g2⟩ := rr2.get h1
      have scj : ∀ (m : Nat) (z : D), xs[m]? = some z → z.sc = true := fun m z hz => List.all_eq_true.mp hsc.2 z (List.mem_of_getElem? hz)
      refine call_tix I2 ((Stp.same (O := Ow Oc M σ) s2').sqT sq) ry (sc_V v2' hsc.1) k1 g1 ?_ (fun m z' hm hz => ?_) fun tk s3 I3 => ⟨.int (j : Nat), H2, I3, ⟨_, rfl⟩, ?_⟩
      · rw [sc_eq g2.b v2' (scj j z h1) hsc.1]; exact h2
      · obtain ⟨dz, q1, q2⟩ := rr2.getV hz
        rw [sc_eq q2.b v2' (scj m dz q1) hsc.1]
        exact h3 m dz hm q1
      · have : n = j := by omega
        subst this
        exact k _ H2 (sm.trans s2') (Vok.sc rfl rfl rfl)
    · cases e
end
end MT
end
section
set_option Elab.async false
set_option linter.all false
set_option maxRecDepth 100000
set_option maxHeartbeats 4000000
/-! Mt3: sets of tuples of texts (the way is that of HandS.TupSets, which has tuples of ints). -/
namespace MT
open PySem PySem.Spec L2 PyProof.Rows
section
variable {P : Program} {w : World} {A : Around} {E : Value → Shared → Prop} {s : Shared}
abbrev kth (P : Program) (w : World) (k : List Key) : Int := tupleKeyHash (mixKind P w) k
def One1 (v : Value) : Prop := (∃ i t, v = Value.int i t) ∨ ∃ x t, v = Value.str x t
theorem items1 {k : List Key} {vs : List Value} (h : ItemsAre (mixKind P w) k vs) : ∀ v ∈ vs, One1 v := by
  induction h with
  | nil => intro v hv; cases hv
  | cons h1 _ ih =>
    intro v hv
    rcases List.mem_cons.mp hv with e | hv
    · rcases keyIs_shape h1 with ⟨i, t, _, q⟩ | ⟨x, t, _, q⟩
      · exact .inl ⟨i, t, e.trans q⟩
      · exact .inr ⟨x, t, e.trans q⟩
    · exact ih v hv
theorem cls1 (n : Nat) {v : Value} (h : One1 v) : ofAClassStatement n v = pure false := by
  rcases h with ⟨i, t, rfl⟩ | ⟨x, t, rfl⟩ <;> cases n <;> rfl
theorem hsh1 (n : Nat) {v : Value} (h : One1 v) : ∃ b, hashByValue n v = pure b := by
  rcases h with ⟨i, t, rfl⟩ | ⟨x, t, rfl⟩
  · exact ⟨true, by cases n <;> rfl⟩
  · exact ⟨false, by cases n <;> rfl⟩
theorem clsT {k : List Key} {b : Addr} {Q : Bool → Shared → Prop} (hk : KTup P w s.heap k b) (h : Q false s) : wpAny (model P w) A (ofAClassStatement 8 (.ref b)) Q E s := by
  have hT := hk.typeIs
  obtain ⟨o, items, n, ho, _, hd, hi⟩ := hk
  unfold ofAClassStatement
  refine wpAny_bind (wpAny_typeOf hT ?_)
  dsimp only
  have e : (("tuple" : String) == "tuple") = true := by decide
  simp only [e, if_true, Bool.not_true, Bool.false_eq_true, if_false]
  try refine wpAny_bind (wpAny_pure ?_)
  try simp only [Bool.not_true, Bool.false_eq_true, if_false]
  show wpAny _ _ (seqItems? (.ref b) >>= _) _ _ s
  refine wpAny_bind (wpAny_seqItems ho hd ?_)
  dsimp only
  refine wpAny_bind ?_
  show wpAny _ _ (forIn items _ _) _ _ s
  rw [← Array.forIn_toList]
  refine wpAny_forIn_list _ (fun rest r s' => r.1 = none ∧ s' = s ∧ ∀ v ∈ rest, One1 v) _ ?_ ?_ _ _ ⟨rfl, rfl, items1 hi⟩
  · rintro v rest r s' ⟨hr, rfl, hall⟩
    rw [cls1 _ (hall v List.mem_cons_self)]
    refine wpAny_bind (wpAny_pure ?_)
    simp only [Bool.false_eq_true, if_false]
    exact wpAny_pure ⟨rfl, rfl, fun u hu => hall u (List.mem_cons_of_mem _ hu)⟩
  · rintro ⟨r1, r2⟩ s' ⟨hr, rfl, _⟩
    simp only at hr
    subst hr
    exact wpAny_pure h
theorem hshT {k : List Key} {b : Addr} {Q : Bool → Shared → Prop} (hk : KTup P w s.heap k b) (h : ∀ r, Q r s) : wpAny (model P w) A (hashByValue 8 (.ref b)) Q E s := by
  have hT := hk.typeIs
  obtain ⟨o, items, n, ho, _, hd, hi⟩ := hk
  unfold hashByValue
  refine wpAny_bind (wpAny_specialOf hT F.slot_tuple_hash.lookup ?_)
  show wpAny _ _ (seqItems? (.ref b) >>= _) _ _ s
  refine wpAny_bind (wpAny_seqItems ho hd ?_)
  refine wpAny_bind ?_
  show wpAny _ _ (forIn items _ _) _ _ s
  rw [← Array.forIn_toList]
  have key : ∀ (l : List Value), (∀ v ∈ l, One1 v) → wpAny (model P w) A (forIn l ((none : Option Bool), ()) (fun x r => do
      let q ← hashByValue 7 x
      if (!q) = true then pure (ForInStep.done (some false, ())) else pure (ForInStep.yield (none, ())))) (fun r s' => s' = s ∧ (r.1 = none ∨ r.1 = some false)) E s := by
    intro l
    induction l with
    | nil => intro _; rw [List.forIn_nil]; exact wpAny_pure ⟨rfl, .inl rfl⟩
    | cons v r ih =>
      intro hall
      rw [List.forIn_cons]
      obtain ⟨q, hq⟩ := hsh1 7 (hall v List.mem_cons_self)
      rw [hq]
      refine wpAny_bind (wpAny_bind (wpAny_pure ?_))
      cases q with
      | true =>
        simp only [Bool.not_true, Bool.false_eq_true, if_false]
        exact wpAny_pure (ih fun u hu => hall u (List.mem_cons_of_mem _ hu))
      | false =>
        simp only [Bool.not_false, if_true]
        exact wpAny_pure (wpAny_pure ⟨rfl, .inr rfl⟩)
  refine wpAny_mono (key items.toList (items1 hi)) (fun r s' ⟨e, hr⟩ => ?_) fun _ _ z => z
  obtain ⟨r1, r2⟩ := r
  subst e
  dsimp only at hr ⊢
  rcases hr with rfl | rfl
  · exact wpAny_pure (h _)
  · exact wpAny_pure (h _)
theorem seenT {k : List Key} {b : Addr} {Q : Bool → Shared → Prop} (hk : KTup P w s.heap k b) {ys : List Value} (hy : ∀ y ∈ ys, ∃ k' c, y = Value.ref c ∧ KTup P w s.heap k' c) (h : Q false s) : wpAny (model P w) A (searchCouldBeSeen (.ref b) ys) Q E s := by
  unfold searchCouldBeSeen
  refine wpAny_bind ?_
  refine wpAny_forIn_list _ (fun rest r s' => r.1 = none ∧ s' = s ∧ ∀ y ∈ rest, ∃ k' c, y = Value.ref c ∧ KTup P w s.heap k' c) _ ?_ ?_ _ _ ⟨rfl, rfl, hy⟩
  · rintro v rest r s' ⟨hr, rfl, hall⟩
    obtain ⟨k', c, rfl, hc⟩ := hall v List.mem_cons_self
    have rest' : ∀ y ∈ rest, ∃ k' c, y = Value.ref c ∧ KTup P w s'.heap k' c := fun u hu => hall u (List.mem_cons_of_mem _ hu)
    dsimp only
    by_cases hv : (b == c || (carriedByValue (.ref b) && carriedByValue (.ref c))) = true
    · exact wp_if_pos hv (wpAny_pure ⟨rfl, rfl, rest'⟩)
    · refine wp_if_neg hv (wpAny_bind (wpAny_eqIsQuiet_tuple hk ?_))
      simp only [Bool.not_true, Bool.false_eq_true, if_false]
      refine wpAny_bind (wpAny_eqIsQuiet_tuple hc ?_)
      simp only [Bool.not_true, Bool.false_eq_true, if_false]
      refine wpAny_bind (clsT hk ?_)
      simp only [Bool.false_eq_true, if_false]
      refine wpAny_bind (clsT hc ?_)
      simp only [Bool.false_eq_true, if_false]
      exact wpAny_pure ⟨rfl, rfl, rest'⟩
  · rintro ⟨r1, r2⟩ s' ⟨hr, rfl, _⟩
    simp only at hr
    subst hr
    exact wpAny_pure h
/-! ### the set -/
abbrev Mem := Addr × List Key
def rowK (P : Program) (w : World) (p : Mem) : Int × Value := (kth P w p.2, Value.ref p.1)
def hsK (P : Program) (w : World) (L : List Mem) : List Int := L.map fun p => kth P w p.2
/-- the table bears the members -/
structure TabK (P : Program) (w : World) (L : List Mem) (es : Array (Int × Value)) (t : SetTable) : Prop where
  rows : es.toList = L.map (rowK P w)
  tab : TabOk t (hsK P w L)
  led : w.params.followText "set-order" = true ∨ t.led = true
structure SetT (P : Program) (w : World) (a : Addr) (h : Heap) (L : List Mem) : Prop where
  ex : ∃ o es ep t, h.get? a = some o ∧ o.ExactSet ∧ o.data = .set es ep t ∧ TabK P w L es t ∧ L.length * 5 < t.mask * 3
  nd : (L.map (·.2)).Nodup
  tup : ∀ p ∈ L, KTup P w h p.2 p.1
variable {a : Addr} {L : List Mem} {es : Array (Int × Value)} {ep : Nat} {t : SetTable}
theorem TabK.size (R : TabK P w L es t) : es.size = L.length := by
  have h := congrArg List.length R.rows
  rwa [Array.length_toList, List.length_map] at h
theorem TabK.plen (R : TabK P w L es t) : t.place.size = L.length := by
  have h := R.tab.sz
  unfold hsK at h
  rwa [List.length_map] at h
theorem TabK.fits (R : TabK P w L es t) (hl : L.length ≤ t.mask) : t.fits es.size = true := by
  unfold SetTable.fits SetTable.fill
  rw [R.tab.dm, Bool.and_eq_true, beq_iff_eq, decide_eq_true_eq, R.plen, R.size]
  exact ⟨rfl, hl⟩
theorem TabK.at (R : TabK P w L es t) {i : Nat} {p : Mem} (h : L[i]? = some p) : es[i]? = some (rowK P w p) := by
  rw [← Array.getElem?_toList, R.rows, List.getElem?_map, h]; rfl
/-- the search, from the c-th step of the way on -/
theorem seekT {o : Obj} (ho : s.heap.get? a = some o) (hd : o.data = .set es ep t) (R : TabK P w L es t) (tup : ∀ p ∈ L, KTup P w s.heap p.2 p.1) (hfl : L.length ≤ t.mask) {x : Addr} {k : List Key} (hx : KTup P w s.heap k x) (hu : A.units < cLine) {K : Nat} (hKf : K < 10 * SetTable.turns t.mask)
    (hK : way t.mask (kth P w k) K ∉ t.place.toList) (hKb : ∀ c, c < K → way t.mask (kth P w k) c ∈ t.place.toList) {Q : SetFound → Shared → Prop} (hin : k ∈ L.map (·.2) → Q (.there none) s) (hout : k ∉ L.map (·.2) → Q (.free (way t.mask (kth P w k) K) false) s) :
    ∀ (f c : Nat) (stand : Option SetTable.Probe), stand.getD (t.probeStart (kth P w k)) = nth t.mask (runAt t.mask (SetTable.bits (kth P w k) % (t.mask + 1)) (SetTable.bits (kth P w k))) c → c ≤ K → K - c < f →
      (∀ (i : Nat) p, L[i]? = some p → p.2 = k → ∃ c', c ≤ c' ∧ c' < K ∧ t.place.toList[i]? = some (way t.mask (kth P w k) c')) → wpAny (model P w) A (setSearchFrom a (.ref x) (kth P w k) true f stand) Q E s := by
  have hfits := R.fits hfl
  generalize hH : kth P w k = H at *
  generalize hp0 : runAt t.mask (SetTable.bits H % (t.mask + 1)) (SetTable.bits H) = p0 at *
  have hw : ∀ c, way t.mask H c = (nth t.mask p0 c).j := fun c => by rw [← hp0]
  have d0 : ∀ (n : Nat) (p : SetTable.Probe), p.dummy = none → (nth t.mask p n).dummy = none := by
    intro n
    induction n with
    | zero => exact fun p h => h
    | succ n ih => exact fun p h => ih (adv t.mask p) (by unfold adv; split <;> exact h)
  have hgw : ¬ t.gaveWay = true := by unfold SetTable.gaveWay; rw [mask_odd R.tab.mok]; decide
  have hat : ∀ (i : Nat) p, L[i]? = some p → (es[i]?.map (·.1)).getD 0 = kth P w p.2 := fun i p hp => by rw [R.at hp]; rfl
  intro f
  induction f with
  | zero => exact fun c stand _ _ hf => absurd hf (Nat.not_lt_zero _)
  | succ f ih =>
    intro c stand hst hc hf hre
    rw [setSearchFrom_succ]
    refine wpAny_bind (wpAny_setState_of ho hd hfits ?_)
    dsimp only
    refine wp_if_neg hgw ?_
    try refine wpAny_bind (wpAny_pure ?_)
    have sh : ∀ q, nth t.mask (nth t.mask p0 c) q = nth t.mask p0 (c + q) := fun q => (nth_add t.mask c p0 q).symm
    have spec := go_spec t R.tab.ris R.tab.dm (fun i => (es[i]?.map (·.1)).getD 0) H (10 * SetTable.turns t.mask) (K - c) (nth t.mask p0 c) (d0 c p0 (by rw [← hp0]; rfl)) (by omega)
      (fun q hq => by rw [sh, ← hw]; exact hKb (c + q) (by omega)) (by rw [sh, ← hw, show c + (K - c) = K by omega]; exact hK)
    rcases spec with ⟨q, i, hq, hi, hh, hno, hpr⟩ | ⟨hno, hpr⟩
    · have hpr' : t.probe (fun i => (es[i]?.map (·.1)).getD 0) H (stand.getD (t.probeStart H)) = some (.candidate (way t.mask H (c + q)) i (nth t.mask p0 (c + (q + 1)))) := by
        rw [hst, hw, ← sh, ← sh]; exact hpr
      rw [hpr']
      dsimp only
      rw [sh, ← hw] at hi
      have hil : i < L.length := by
        have h1 := (List.getElem?_eq_some_iff.mp hi).1
        rw [Array.length_toList, R.plen] at h1
        exact h1
      have hp : L[i]? = some L[i] := List.getElem?_eq_getElem hil
      generalize L[i] = p at hp
      have hmem : p ∈ L := List.mem_of_getElem? hp
      have rest : wpAny (model P w) A (searchRest a (.ref x) H true f es t (way t.mask H (c + q)) i (nth t.mask p0 (c + (q + 1)))) Q E s := by
        unfold searchRest
        rw [R.at hp]
        dsimp only [rowK]
        refine wpAny_bind (wpAny_holding (wpAny_eqBool_tuple hu (tup p hmem) hx ?_))
        refine wpAny_bind (wpAny_setState_of ho hd hfits ?_)
        dsimp only
        by_cases hkk : p.2 = k
        · refine wp_if_pos (by simp [hkk]) (wpAny_pure (hin (List.mem_map.mpr ⟨p, hmem, hkk⟩)))
        · refine wp_if_neg (by simp [hkk]) ?_
          try refine wpAny_bind (wpAny_pure ?_)
          rw [sameMem]
          dsimp only
          have hsl : t.slot (way t.mask H (c + q)) = .live i := slot_live R.tab.ris hi
          simp only [if_true, hsl, R.at hp, rowK]
          refine wpAny_bind (wpAny_isSame_ref_self (wpAny_bind (wpAny_pure ?_)))
          simp only [if_true]
          refine wp_if_neg (by simp [hkk]) ?_
          refine ih (c + (q + 1)) _ rfl (by omega) (by omega) fun i0 p0' h0 hk0 => ?_
          obtain ⟨c', a1, a2, a3⟩ := hre i0 p0' h0 hk0
          refine ⟨c', ?_, a2, a3⟩
          rcases Nat.lt_trichotomy c' (c + q) with z | z | z
          · exfalso
            refine hno (c' - c) i0 (by omega) (by rw [sh, ← hw, show c + (c' - c) = c' by omega]; exact a3) ?_
            show (es[i0]?.map (·.1)).getD 0 = H
            rw [hat i0 p0' h0, hk0, hH]
          · exfalso
            rw [z] at a3
            have s0 := slot_live R.tab.ris a3
            rw [hsl] at s0
            injection s0 with s0
            rw [← s0, hp] at h0
            exact hkk ((congrArg Prod.snd (Option.some.inj h0)).trans hk0)
          · omega
      by_cases hl : t.led = true
      · refine wp_if_neg (by simp [hl]) ?_
        try refine wpAny_bind (wpAny_pure ?_)
        exact rest
      · refine wp_if_pos (by simp [hl]) ?_
        refine wpAny_bind (seenT hx (fun y hy => ?_) ?_)
        · obtain ⟨e, he, ee⟩ := List.mem_map.mp hy
          have he2 : e ∈ es.toList := by
            have : e ∈ es ∧ e.1 = H := by simpa using he
            simpa using this.1
          rw [R.rows] at he2
          obtain ⟨p2, hp2, e2⟩ := List.mem_map.mp he2
          exact ⟨p2.2, p2.1, by rw [← ee, ← e2]; rfl, tup p2 hp2⟩
        · refine wp_if_neg (by decide) ?_
          try refine wpAny_bind (wpAny_pure ?_)
          exact rest
    · have hpr' : t.probe (fun i => (es[i]?.map (·.1)).getD 0) H (stand.getD (t.probeStart H)) = some (.empty (way t.mask H K) none) := by
        rw [hst, hw, show K = c + (K - c) by omega, ← sh]; exact hpr
      rw [hpr']
      dsimp only
      refine wpAny_pure (hout fun hm => ?_)
      obtain ⟨p1, h0, hk0⟩ := List.mem_map.mp hm
      obtain ⟨i0, hi0, e0⟩ := List.getElem_of_mem h0
      have h00 : L[i0]? = some p1 := by rw [List.getElem?_eq_getElem hi0, e0]
      obtain ⟨c', a1, a2, a3⟩ := hre i0 p1 h00 hk0
      refine hno (c' - c) i0 (by omega) (by rw [sh, ← hw, show c + (c' - c) = c' by omega]; exact a3) ?_
      show (es[i0]?.map (·.1)).getD 0 = H
      rw [hat i0 p1 h00, hk0, hH]
end
section
variable {P : Program} {w : World} {A : Around} {E : Value → Shared → Prop} {s : Shared} {a : Addr} {L : List Mem} {es : Array (Int × Value)} {ep : Nat} {t : SetTable}
theorem ktup_same {h h' : Heap} {k : List Key} {b : Addr} {o : Obj} (hb : KTup P w h k b) (ho : h.get? a = some o) (hd : o.data = .set es ep t) (hs : Heap.SameBut a h h') : KTup P w h' k b := by
  obtain ⟨o', items, n, ho', hc, hd', hi⟩ := hb
  refine ⟨o', items, n, (hs.2 b fun z => ?_).trans ho', hc, hd', hi⟩
  subst z
  obtain rfl : o' = o := Option.some.inj (ho'.symm.trans ho)
  rw [hd] at hd'
  exact nomatch hd'
theorem seek0 (R : SetT P w a s.heap L) {x : Addr} {k : List Key} (hx : KTup P w s.heap k x) (hu : A.units < cLine) {o : Obj} (ho : s.heap.get? a = some o) (hd : o.data = .set es ep t) (T : TabK P w L es t) (room : L.length * 5 < t.mask * 3) {Q : SetFound → Shared → Prop} (hin : k ∈ L.map (·.2) → Q (.there none) s)
    (hout : ∀ K, k ∉ L.map (·.2) → way t.mask (kth P w k) K ∉ t.place.toList → (∀ c, c < K → way t.mask (kth P w k) c ∈ t.place.toList) → Q (.free (way t.mask (kth P w k) K) false) s) : wpAny (model P w) A (setSearch a (.ref x) (kth P w k) true) Q E s := by
  obtain ⟨K, hKf, hK, hKb⟩ := T.tab.first (by unfold hsK; rw [List.length_map]; omega) (kth P w k)
  have hbig : K < 100000 := by
    have : 10 * SetTable.turns t.mask ≤ 1420 := by
      unfold SetTable.turns
      rcases T.tab.mok with e | e | e <;> omega
    omega
  unfold setSearch
  refine seekT ho hd T R.tup (by omega) hx hu hKf hK hKb hin (fun hn => hout K hn hK hKb) 100000 0 none rfl (Nat.zero_le _) (by omega) fun i p hp hk => ?_
  have hi : (hsK P w L)[i]? = some (kth P w k) := by unfold hsK; rw [List.getElem?_map, hp, ← hk]; rfl
  have hil : i < t.place.toList.length := by
    have h1 := (List.getElem?_eq_some_iff.mp hp).1
    rw [Array.length_toList, T.plen]; exact h1
  have hj := List.getElem?_eq_getElem hil
  obtain ⟨c, hc, e⟩ := T.tab.before hK hi hj
  exact ⟨c, Nat.zero_le _, hc, by rw [hj, e]⟩
theorem range_some {α : Type} (l : List α) : (List.range l.length).filterMap (fun i => l[i]?) = l := by
  have h1 : (List.range l.length).map (fun i => l[i]?) = l.map some := by
    refine List.ext_getElem (by simp) fun i h1 h2 => ?_
    simp at h1 h2
    simp [h2]
  have h2 : ∀ m : List Nat, m.filterMap (fun i => l[i]?) = (m.map fun i => l[i]?).filterMap id := fun m => by rw [List.filterMap_map]; rfl
  rw [h2, h1, List.filterMap_map]
  simp
theorem orderK (T : es.toList = L.map (rowK P w)) {order : Array Nat} (hp : order.toList.Perm (List.range L.length)) : ∃ L2, (order.filterMap (es[·]?)).toList = L2.map (rowK P w) ∧ L2.Perm L ∧ hsK P w L2 = order.toList.map fun i => (es.map (·.1)).getD i 0 := by
  have hat : ∀ i : Nat, es[i]? = (L[i]?).map (rowK P w) := fun i => by rw [← Array.getElem?_toList, T, List.getElem?_map]
  refine ⟨order.toList.filterMap fun i => L[i]?, ?_, ?_, ?_⟩
  · rw [Array.toList_filterMap, List.map_filterMap]
    congr 1
    funext i
    exact hat i
  · have := hp.filterMap fun i => L[i]?
    rwa [range_some] at this
  · have hb : ∀ i ∈ order.toList, i < L.length := fun i hi => List.mem_range.mp (hp.mem_iff.mp hi)
    generalize order.toList = l at hb
    clear hp
    unfold hsK
    induction l with
    | nil => rfl
    | cons i r ih =>
      have hi := hb i List.mem_cons_self
      have e1 : L[i]? = some L[i] := List.getElem?_eq_getElem hi
      have e2 := hat i
      rw [e1] at e2
      rw [List.filterMap_cons_some e1, List.map_cons, List.map_cons, ih fun j hj => hb j (List.mem_cons_of_mem _ hj)]
      congr 1
      have e3 : (es.map (·.1))[i]? = some (kth P w (L[i]).2) := by rw [Array.getElem?_map, e2]; rfl
      rw [Array.getD_eq_getD_getElem?, e3]; rfl
/-- laid anew, larger -/
theorem relayT {o : Obj} (ho : s.heap.get? a = some o) (hex : o.ExactSet) (hd : o.data = .set es ep t) (T : TabK P w L es t) (hfl : L.length ≤ t.mask) (nd : (L.map (·.2)).Nodup) (tup : ∀ p ∈ L, KTup P w s.heap p.2 p.1) {wanted M : Nat} (hw : SetTable.sizeAbove wanted - 1 = M) (hM : MaskOk M) (hw2 : SetTable.sizeAbove wanted ≤ 128) (hn : L.length * 5 < M * 3) {Q : Unit → Shared → Prop}
    (hQ : ∀ h' L', Heap.SameBut a s.heap h' → SetT P w a h' L' → L'.Perm L → Q () { s with heap := h' }) : wpAny (model P w) A (setRelay a wanted) Q E s := by
  have hsl := T.size
  obtain ⟨t', order, e, hp, T', em, el, _, _⟩ := relaid_ok t (hs := es.map (·.1)) (wanted := wanted) hw hM (by rw [Array.size_map, hsl]; omega)
  rw [Array.size_map, hsl] at hp
  obtain ⟨L2, r1, r2, r3⟩ := orderK T.rows hp
  rw [← r3] at T'
  have hs2 : (order.filterMap (es[·]?)).size = es.size := by
    have h := congrArg List.length r1
    rw [Array.length_toList, List.length_map, r2.length_eq] at h
    rw [h, hsl]
  rw [setRelay_eq]
  refine wpAny_bind (wpAny_setState_of ho hd (T.fits hfl) ?_)
  dsimp only
  refine wp_if_neg (by rw [sizeLine_eq]; omega) ?_
  try refine wpAny_bind (wpAny_pure ?_)
  rw [e]
  dsimp only
  refine wpAny_bind ?_
  refine wp_if_neg (by rw [hs2]; simp) ?_
  try refine wpAny_bind (wpAny_pure ?_)
  refine wpAny_pure ?_
  dsimp only
  have hM127 : M ≤ 127 := by omega
  refine wpAny_storeSet_of ho hd ?_ (by rw [hs2, hsl, sizeLine_eq]; omega)
  have sb : Heap.SameBut a s.heap (s.heap.update a (Obj.putSet (order.filterMap (es[·]?)) t')) := Heap.SameBut.update ..
  exact hQ _ L2 sb ⟨⟨_, _, _, t', store_at ho hd, ⟨hex.1, hex.2.1, hex.2.2⟩, rfl, ⟨r1, T', by rw [el]; exact T.led⟩, by rw [r2.length_eq, em]; exact hn⟩, (r2.map (·.2)).nodup_iff.mpr nd, fun p hpm => ktup_same (tup p (r2.mem_iff.mp hpm)) ho hd sb⟩ r2
/-- adding -/
theorem addT (R : SetT P w a s.heap L) {x : Addr} {k : List Key} (hx : KTup P w s.heap k x) (hu : A.units < cLine) (hfew : L.length + 1 < 64) {Q : Bool → Shared → Prop}
    (hQ : ∀ b h' L', Heap.SameBut a s.heap h' → SetT P w a h' L' → (k ∈ L.map (·.2) → L' = L) → (k ∉ L.map (·.2) → L'.Perm ((x, k) :: L)) → Q b { s with heap := h' }) : wpAny (model P w) A (setAddHashed a (.ref x) (kth P w k)) Q E s := by
  obtain ⟨o, es, ep, t, ho, hex, hd, T, room⟩ := R.ex
  have hfits := T.fits (by omega)
  unfold setAddHashed
  refine wpAny_holding ?_
  rw [show (100000 : Nat) = 99999 + 1 from rfl, setAddHashedIn_succ]
  refine wpAny_bind (wpAny_setState_of ho hd hfits ?_)
  dsimp only
  refine wp_if_neg (by simp [byScan, Value.scannable]) ?_
  try refine wpAny_bind (wpAny_pure ?_)
  refine wpAny_bind (seek0 R hx hu ho hd T room (fun hm => ?_) fun K hm hK hb => ?_)
  · exact wpAny_pure (hQ false s.heap L (Heap.SameBut.refl a s.heap) R (fun _ => rfl) fun z => absurd hm z)
  · dsimp only
    refine wpAny_bind (wpAny_setState_of ho hd hfits ?_)
    dsimp only
    obtain ⟨q1, q2, q3, q4, q5, q6, q7, q8, q9⟩ := T.tab.put hK hb
    generalize hpt : t.put (way t.mask (kth P w k) K) = pt at q1 q3 q4 q5 q6 q7 q8 q9 ⊢
    obtain ⟨t1, p⟩ := pt
    dsimp only at q1 q3 q4 q5 q6 q7 q8 q9 ⊢
    subst q1
    generalize hpp : SetTable.below t.place (way t.mask (kth P w k) K) = p at q2 q3 ⊢
    have hin : (SetTable.insertAt es p (kth P w k, Value.ref x)).toList = (L.take p ++ (x, k) :: L.drop p).map (rowK P w) := by
      rw [SetTable.toList_insertAt, T.rows, List.map_append, List.map_cons, List.map_take, List.map_drop]; rfl
    have pm := put_perm L p (x, k)
    have hhs : hsK P w (L.take p ++ (x, k) :: L.drop p) = (hsK P w L).take p ++ kth P w k :: (hsK P w L).drop p := by
      unfold hsK
      rw [List.map_append, List.map_cons, List.map_take, List.map_drop]
    rw [← hhs] at q3
    have nd1 : ((L.take p ++ (x, k) :: L.drop p).map (·.2)).Nodup := (pm.map (·.2)).nodup_iff.mpr (by rw [List.map_cons]; exact List.nodup_cons.mpr ⟨hm, R.nd⟩)
    generalize SetTable.insertAt es p (kth P w k, Value.ref x) = es1 at hin ⊢
    generalize L.take p ++ (x, k) :: L.drop p = L1 at pm q3 nd1 hin
    have hlen : L1.length = L.length + 1 := pm.length_eq
    -- what the table is, plain or not
    have fin : ∀ t2 : SetTable, TabOk t2 (hsK P w L1) → t2.mask = t.mask → t2.led = t.led → t2.fill = L.length + 1 → wpAny (model P w) A (do
        storeSet a es1 t2
        if (!false && t2.tooFull) = true then do
            setRelay a (SetTable.grown (es.size + 1))
            pure true
          else pure true) Q E s := by
      intro t2 T2 m2 l2 f2
      have TK : TabK P w L1 es1 t2 := ⟨hin, T2, by rw [l2]; exact T.led⟩
      refine wpAny_bind (wpAny_storeSet_of ho hd ?_ (by rw [TK.size, hlen, sizeLine_eq]; omega))
      have sb : Heap.SameBut a s.heap (s.heap.update a (Obj.putSet es1 t2)) := Heap.SameBut.update ..
      have ho1 := store_at (es' := es1) (t' := t2) ho hd
      generalize s.heap.update a (Obj.putSet es1 t2) = h1 at sb ho1 ⊢
      have tup1 : ∀ p ∈ L1, KTup P w h1 p.2 p.1 := fun p hp => by
        rcases List.mem_cons.mp (pm.mem_iff.mp hp) with e | hp
        · rw [e]; exact ktup_same hx ho hd sb
        · exact ktup_same (R.tup p hp) ho hd sb
      by_cases hf : t2.tooFull = true
      · refine wp_if_pos (by simp [hf]) (wpAny_bind ?_)
        have hfull : (L.length + 1) * 5 ≥ t.mask * 3 := by
          have h := hf
          unfold SetTable.tooFull at h
          rw [decide_eq_true_eq, f2, m2] at h
          exact h
        rw [T.size]
        have cases2 : (t.mask = 7 ∧ L.length = 4) ∨ (t.mask = 31 ∧ L.length = 18) := by
          rcases T.tab.mok with e | e | e
          · left; rw [e] at hfull room; exact ⟨e, by omega⟩
          · right; rw [e] at hfull room; exact ⟨e, by omega⟩
          · exfalso; rw [e] at hfull; omega
        have go : ∀ M, SetTable.sizeAbove (SetTable.grown (L.length + 1)) - 1 = M → MaskOk M → SetTable.sizeAbove (SetTable.grown (L.length + 1)) ≤ 128 → (L.length + 1) * 5 < M * 3 →
            wpAny (model P w) A (setRelay a (SetTable.grown (L.length + 1))) (fun _ s' => wpAny (model P w) A (pure true) Q E s') E { s with heap := h1 } := fun M g1 g2 g3 g4 => by
          refine relayT (s := { s with heap := h1 }) ho1 ⟨hex.1, hex.2.1, hex.2.2⟩ rfl TK (by rw [hlen, m2]; rcases cases2 with ⟨e, e2⟩ | ⟨e, e2⟩ <;> omega) nd1 tup1 g1 g2 g3 (by rw [hlen]; exact g4) fun h2 L2 sb2 R2 pm2 => ?_
          exact wpAny_pure (hQ true h2 L2 (sb.trans sb2) R2 (fun z => absurd z hm) fun _ => pm2.trans pm)
        rcases cases2 with ⟨_, e2⟩ | ⟨_, e2⟩
        · exact go 31 (by rw [e2, size_20]) (.inr (.inl rfl)) (by rw [e2, size_20]; decide) (by omega)
        · exact go 127 (by rw [e2, size_76]) (.inr (.inr rfl)) (by rw [e2, size_76]; decide) (by omega)
      · refine wp_if_neg (by simp [hf]) ?_
        refine wpAny_pure (hQ true h1 L1 sb ⟨⟨_, es1, _, t2, ho1, ⟨hex.1, hex.2.1, hex.2.2⟩, rfl, TK, ?_⟩, nd1, tup1⟩ (fun z => absurd z hm) fun _ => pm)
        have h := hf
        unfold SetTable.tooFull at h
        rw [decide_eq_true_eq, f2] at h
        rw [hlen]
        omega
    have hf1 : t1.fill = L.length + 1 := by rw [q9]; unfold hsK; rw [List.length_map]
    have T0 : TabOk { t1 with plain := false } (hsK P w L1) := ⟨q3.ris, q3.dm, q3.sz, q3.mok, q3.bd, q3.reach⟩
    by_cases hpl : t1.plain = true
    · first
        | (refine wpAny_bind ?_; refine wp_if_pos hpl ?_; refine hshT hx fun r => ?_)
        | refine wp_if_pos hpl (wpAny_bind (hshT hx fun r => ?_))
      cases r with
      | true =>
        simp only [if_true]
        exact fin t1 q3 q4 q5 hf1
      | false =>
        simp only [Bool.false_eq_true, if_false]
        exact fin _ T0 q4 q5 hf1
    · first
        | (refine wpAny_bind ?_; refine wp_if_neg hpl ?_; refine wpAny_pure ?_)
        | refine wp_if_neg hpl (wpAny_bind (wpAny_pure ?_))
        | refine wp_if_neg hpl ?_
      simp only [if_true]
      exact fin t1 q3 q4 q5 hf1
end
end MT
end
section
set_option Elab.async false
set_option linter.all false
set_option maxRecDepth 100000
set_option maxHeartbeats 4000000
/-! Mt4: sorted(set(..)) of tuples of texts. -/
namespace MT
open PySem PySem.Spec L2 PyProof.Rows
variable [Pw]
/-- the kind of sets of tuples -/
def kdT (P : Program) (w : World) (S : Addr) (h0 : Heap) : SetKd P w S h0 63 Mem (List Key) where
  key := (·.2)
  R := fun h L => SetT P w S h L ∧ ∀ p ∈ L, KTup P w h0 p.2 p.1
  Is := fun p v => v = Value.ref p.1 ∧ KTup P w h0 p.2 p.1
  keep := fun h h' L ⟨⟨⟨o, es, ep, t, ho, r⟩, nd, tup⟩, hm⟩ k k0 => ⟨⟨⟨o, es, ep, t, k o ho, r⟩, nd, fun p hp => by
    obtain ⟨o', items, n, ho', r'⟩ := hm p hp
    exact ⟨o', items, n, k0 _ _ ho', r'⟩⟩, hm⟩
  new := fun h e => ⟨⟨⟨_, #[], 0, _, e, ⟨rfl, rfl, rfl⟩, rfl, ⟨rfl, ⟨List.Pairwise.nil, rfl, rfl, .inl rfl, fun x hx => (by cases hx), fun i h j hi => (by simp [hsK] at hi)⟩, by
    show _ ∨ (!w.params.followText "set-order") = true
    cases w.params.followText "set-order"
    · exact .inr rfl
    · exact .inl rfl⟩, by
    show 0 * 5 < 7 * 3
    decide⟩, List.nodup_nil, fun p hp => (by cases hp)⟩, fun p hp => (by cases hp)⟩
  nd := fun h L r => r.1.nd
  add := fun A E s L x v Q hu hk R hv hl hQ => by
    obtain ⟨rfl, hx⟩ := hv
    have hx' : KTup P w s.heap x.2 x.1 := by
      obtain ⟨o', items, n, ho', r'⟩ := hx
      exact ⟨o', items, n, hk _ _ ho', r'⟩
    unfold setAdd
    refine wpAny_holding (wpAny_bind (wpAny_pyHash_tuple hu hx' ?_))
    refine addT (s := { s with toks := s.toks + (x.2.length + 1) }) R.1 hx' hu (by omega) fun b h' L' sb r c1 c2 => ?_
    refine hQ b h' _ L' sb (Nat.le_add_right _ _) ⟨r, fun p hp => ?_⟩ c1 c2
    by_cases c : x.2 ∈ L.map (·.2)
    · rw [c1 c] at hp; exact R.2 p hp
    · rcases List.mem_cons.mp ((c2 c).mem_iff.mp hp) with e | e
      · rw [e]; exact hx
      · exact R.2 p e
/-- the set's own object -/
def SetO (P : Program) (w : World) (a : Addr) (L : List Mem) (h : Heap) : Prop := ∃ o es ep t, h.get? a = some o ∧ o.ExactSet ∧ o.data = .set es ep t ∧ TabK P w L es t ∧ L.length * 5 < t.mask * 3
def SetTO (P : Program) (w : World) (a : Addr) (L : List Mem) : HO := .ext fun h => SetO P w a L h
section
variable {X : Cx} {pins : List (Addr × Obj)} {σ : L2.St} {H : Hp} {s : Shared}
theorem setT_new {P : Program} {w : World} {h : Heap} {a : Addr} {L : List Mem} (R : SetO P w a L h) : ObjOk P w H h a (SetTO P w a L) := by
  have ⟨o, _, _, _, ho, _⟩ := R
  exact ⟨R, ⟨o, ho⟩, fun h1 h2 ⟨o, es, ep, t, ho, r⟩ k => ⟨o, es, ep, t, k o ho, r⟩⟩
theorem setT_get {a : Addr} {L : List Mem} (I : Inv X pins σ H s) (ha : H a = some (SetTO X.prog X.w a L)) : SetO X.prog X.w a L s.heap := (I.hok a _ ha).1
/-- set(xs) of tuples -/
def rSetT (K : PySem.W.Frag) (P : Program) (w : World) : List V → Hp → VK → Prop := fun xs H Q => ∃ (l : Addr) (ms : List Mem), xs = [V.ref l] ∧ (SqL K H l (ms.map fun p => V.ref p.1) ∨ SqT K H l (ms.map fun p => V.ref p.1)) ∧ (∀ p ∈ ms, SqT K H p.1 (p.2.map kV)) ∧
  (∀ L : List Mem, (L.map (·.2)).Nodup → (∀ x ∈ L, x ∈ ms) → L.length < 63) ∧
  ∀ p L, H p = none → (L.map (·.2)).Nodup → (∀ x ∈ L, x ∈ ms) → (∀ x ∈ ms, x.2 ∈ L.map (·.2)) → Q (.ref p) (upd H p (SetTO P w p L))
theorem vals_refs {ms : List Mem} {us : List Value} (r : Vals (ms.map fun p => V.ref p.1) us) : us = ms.map fun p => Value.ref p.1 := by
  induction ms generalizing us with
  | nil => cases r; rfl
  | cons m ms ih => cases r with | cons h t => rw [ih t, List.map_cons]; congr 1
theorem refs_vals (ms : List Mem) : Vals (ms.map fun p => V.ref p.1) (ms.map fun p => Value.ref p.1) := by
  induction ms with
  | nil => exact .nil
  | cons m ms ih => exact .cons rfl ih
theorem cr_setT (hc : X.calm = true) (hu : X.A.units + 64 < cLine) : CallR X (.type "set") (rSetT X.K X.prog X.w) := by
  intro pins s σ H xs us Q I r h
  obtain ⟨l, ms, rfl, sq, hk, few, q⟩ := h
  rw [Vals.ref1 r]
  have fin : ∀ (h' : Heap) (tk : Nat) (L : List Mem), (kdT X.prog X.w s.heap.objs.size s.heap).R h' L → Has (kdT X.prog X.w s.heap.objs.size s.heap).key ms ms.length L → (∀ b o, s.heap.get? b = some o → h'.get? b = some o) → EP X pins σ Q (.ref s.heap.objs.size) { s with heap := h', toks := tk } := by
    intro h' tk L hR g kp
    refine ⟨.ref _, upd H s.heap.objs.size (SetTO X.prog X.w s.heap.objs.size L), I.laid (t' := tk) kp (Nat.le_refl _) (setT_new hR.1.ex), rfl, q _ L (I.hok.fresh (Nat.le_refl _)) hR.1.nd (fun x hx => List.mem_of_mem_take (g.sub x hx)) fun x hx => ?_⟩
    exact g.all x (by rw [List.take_length]; exact hx)
  have isv : ∀ {us : List Value}, us = ms.map (fun p => Value.ref p.1) → ∀ (i : Nat) (v : Value), us[i]? = some v → ∃ x, ms[i]? = some x ∧ (kdT X.prog X.w s.heap.objs.size s.heap).Is x v := fun {us} e i v hv => by
    rw [e, List.getElem?_map] at hv
    cases hm : ms[i]? with
    | none => rw [hm] at hv; cases hv
    | some x =>
      rw [hm] at hv
      cases hv
      exact ⟨x, rfl, rfl, ktup_of I (hk x (List.mem_of_getElem? hm))⟩
  rcases sq with sq | sq
  · obtain ⟨its, rv, pl, hz⟩ := I.list sq
    have e := vals_refs rv
    exact mk_set_list ms (kdT X.prog X.w s.heap.objs.size s.heap) (I.ok.hd hc) pl.isList (by rw [List.size_toArray, e, List.length_map]) (fun i v h => isv e i v (by simpa using h)) few (by omega) fin
  · obtain ⟨its, rv, pl, hz⟩ := I.tuple sq
    have e := vals_refs rv
    exact mk_set_tuple ms (kdT X.prog X.w s.heap.objs.size s.heap) (I.ok.hd hc) (show s.heap.IsTuple l its.toArray from pl) (by rw [List.size_toArray, e, List.length_map]) (fun i v h => isv e i v (by simpa using h)) few (by omega) fin
/-- sorted of such a set -/
def rSortT (K : PySem.W.Frag) (P : Program) (w : World) : List V → Hp → VK → Prop := fun xs H Q => ∃ (a : Addr) (L : List Mem) (O : Addr → Prop) (ds : List D) (d : D), xs = [V.ref a] ∧ H a = some (SetTO P w a L) ∧ L.length < 64 ∧ AllocO O H ∧ Rps K H O ds (L.map fun p => V.ref p.1) ∧ srtT ds = .ok d ∧
  ∀ v H', Same H H' → Nw K H H' O d v → Q v H'
theorem cr_sortT (hc : X.calm = true) : CallR X (.builtin "sorted") (rSortT X.K X.prog X.w) := by
  intro pins s σ H vs us Q I r h
  obtain ⟨a, L, O, ds, d, rfl, ha, h64, al, rr, e, q⟩ := h
  obtain ⟨o, es, ep, t, ho, hx, hd, T, room⟩ := setT_get I ha
  rw [Vals.ref1 r]
  refine srt_core al (refs_vals L) rr (by rw [List.length_map, sizeLine_eq]; omega) e (fun R E h => ?_) q
  refine collect_set (A := X.A.in1) (I.ok.hd hc) ⟨o, ho, hx.1, hd⟩ (T.fits (by omega)) (by rw [T.size]; unfold scanBound; omega) T.tab.ris T.led fun s1 out k1 hz g1 o1 pm => ?_
  refine h out s1 ?_ (I.call' (ch := []) o1 (Un.kept k1) (I.hok.kept k1) (by rw [g1]; exact I.bare) fun _ z => nomatch z)
  rw [T.rows, List.map_map] at pm
  exact pm
/-! ### the data -/
theorem strs_map : ∀ ss : List (List Nat), strsO (ss.map .str) = some ss
  | [] => rfl
  | a :: r => by simp [strsO, strs_map r]
theorem keysA_map {n : Nat} : ∀ {l : List (List (List Nat))}, (∀ ss ∈ l, ss.length = n) → keysA n (l.map tupS) = some l
  | [], _ => rfl
  | ss :: r, h => by
    have h1 := h ss List.mem_cons_self
    have h2 := keysA_map (l := r) fun x hx => h x (List.mem_cons_of_mem _ hx)
    simp only [List.map_cons, tupS, keysA, strs_map]
    have h3 : keysA n (r.map fun ss => D.tup (ss.map .str)) = some r := h2
    have h4 : (r.map tupS) = (r.map fun ss => D.tup (ss.map .str)) := rfl
    rw [h4, h3]
    simp [h1]
theorem sortL_eq {l m : List (List (List Nat))} (p : l.Perm m) : sortL l = sortL m :=
  List.Perm.eq_of_pairwise (fun a b _ _ => leL_anti) (sortL_pw l) (sortL_pw m) ((sortL_perm l).trans (p.trans (sortL_perm m).symm))
abbrev AT := Addr × List (List Nat)
def memOf (y : AT) : Mem := (y.1, (y.2.map toS).map Sum.inr)
theorem memOf_inj {a b : List (List Nat)} (h : (a.map toS).map (Sum.inr : Str → Key) = (b.map toS).map Sum.inr) : a = b := by
  have h1 : a.map toS = b.map toS := by
    have := congrArg (List.map fun k : Key => match k with | .inr s => s | .inl _ => toS []) h
    simpa [List.map_map, Function.comp_def] using this
  have h2 := congrArg (List.map fun s : Str => s.cps.toList) h1
  simpa [List.map_map, Function.comp_def, toS] using h2
theorem rps_tups {O : Addr → Prop} : ∀ {xs : List D} {vs : List V} {n : Nat} {ks : List (List (List Nat))}, Rps X.K H O xs vs → keysA n xs = some ks → ∃ l : List AT, vs = l.map (fun y => V.ref y.1) ∧ ks = l.map (·.2) ∧ (∀ y ∈ l, Rp X.K H O (tupS y.2) (.ref y.1) ∧ SqT X.K H y.1 (((y.2.map toS).map Sum.inr).map kV)) ∧ ∀ y ∈ l, y.2.length = n
  | [], vs, n, ks, rr, h => by
    have := rr.inv0
    subst this
    simp [keysA] at h
    subst h
    exact ⟨[], rfl, rfl, (fun _ z => nomatch z), fun _ z => nomatch z⟩
  | d :: r, vs, n, ks, rr, h => by
    obtain ⟨v, ws, rfl, r1, r2⟩ := rr.inv
    obtain ⟨e1, e2⟩ := keysA_is h
    obtain ⟨ss, ed, hl, hk⟩ := e2 d List.mem_cons_self
    have hr : keysA n r = some (r.map (kD true)) := by
      have h' := h
      rw [ed] at h'
      simp only [tupS, keysA, strs_map] at h'
      cases h2 : keysA n r with
      | none => rw [h2] at h'; cases h'
      | some l => rw [(keysA_is h2).1]
    obtain ⟨l, q1, q2, q3, q4⟩ := rps_tups r2 hr
    rw [ed] at r1
    obtain ⟨a, us, rfl, sq, _, ru⟩ := rb_tup r1.b
    obtain ⟨eu, _, _⟩ := ru.strs (strs_map ss)
    have em : us = ((ss.map toS).map (Sum.inr : Str → Key)).map kV := by rw [eu, List.map_map, List.map_map, List.map_map]; rfl
    rw [em] at sq
    refine ⟨(a, ss) :: l, by rw [q1]; rfl, ?_, ?_, ?_⟩
    · rw [e1, List.map_cons, List.map_cons, q2, hk]
    · intro y hy
      rcases List.mem_cons.mp hy with z | z
      · rw [z]; exact ⟨r1, sq⟩
      · exact q3 y z
    · intro y hy
      rcases List.mem_cons.mp hy with z | z
      · rw [z]; exact hl
      · exact q4 y z
theorem nodup_of_map {α β : Type} {f : α → β} : ∀ {l : List α}, (l.map f).Nodup → l.Nodup
  | [], _ => List.nodup_nil
  | a :: r, h => by
    rw [List.map_cons, List.nodup_cons] at h
    exact List.nodup_cons.mpr ⟨fun z => h.1 (List.mem_map.mpr ⟨a, z, rfl⟩), nodup_of_map h.2⟩
theorem sub_map {α β : Type} {f : α → β} {l : List α} : ∀ {L : List β}, (∀ x ∈ L, x ∈ l.map f) → ∃ l2 : List α, L = l2.map f ∧ ∀ y ∈ l2, y ∈ l
  | [], _ => ⟨[], rfl, fun _ z => nomatch z⟩
  | x :: L, h => by
    obtain ⟨l2, e, hs⟩ := sub_map (L := L) fun y hy => h y (List.mem_cons_of_mem _ hy)
    obtain ⟨y, hy, ey⟩ := List.mem_map.mp (h x List.mem_cons_self)
    exact ⟨y :: l2, by rw [e, List.map_cons, ey], fun z hz => by
      rcases List.mem_cons.mp hz with q | q
      · rw [q]; exact hy
      · exact hs z q⟩
theorem rps_of {O : Addr → Prop} : ∀ {l : List AT}, (∀ y ∈ l, Rp X.K H O (tupS y.2) (.ref y.1)) → Rps X.K H O (l.map fun y => tupS y.2) (l.map fun y => V.ref y.1)
  | [], _ => Rps.nil
  | y :: l, h => Rps.cons (h y List.mem_cons_self) (rps_of fun z hz => h z (List.mem_cons_of_mem _ hz))
theorem ssetT_core {O : Addr → Prop} {xs : List D} {vs : List V} {d : D} {l : Addr} {Q : VK} (al : AllocO O H) (rr : Rps X.K H O xs vs) (sq : SqL X.K H l vs ∨ SqT X.K H l vs) (e : ssetT xs = .ok d) (q : ∀ v H', Same H H' → Nw X.K H H' O d v → Q v H') :
    rSetT X.K X.prog X.w [.ref l] H fun w H2 => rSortT X.K X.prog X.w [w] H2 Q := by
  unfold ssetT at e
  cases hA : keysA (widT xs) xs with
  | none => rw [hA] at e; cases e
  | some ks =>
    rw [hA] at e
    dsimp only at e
    split at e
    · rename_i hw
      cases e
      obtain ⟨at', ev, ek, hr, hn⟩ := rps_tups rr hA
      have inl : ∀ {L : List Mem}, (L.map (·.2)).Nodup → (∀ x ∈ L, x ∈ at'.map memOf) → ∃ l2 : List AT, L = l2.map memOf ∧ (∀ y ∈ l2, y ∈ at') ∧ (l2.map (·.2)).Nodup := fun {L} nd hs => by
        obtain ⟨l2, e, hs2⟩ := sub_map hs
        refine ⟨l2, e, hs2, ?_⟩
        rw [e, List.map_map] at nd
        have : l2.map ((fun p : Mem => p.2) ∘ memOf) = (l2.map (·.2)).map fun ss => (ss.map toS).map (Sum.inr : Str → Key) := by rw [List.map_map]; rfl
        rw [this] at nd
        exact nodup_of_map nd
      have hms : vs = (at'.map memOf).map fun p => V.ref p.1 := by rw [ev, List.map_map]; rfl
      rw [hms] at sq
      refine ⟨l, at'.map memOf, rfl, sq, fun p hp => ?_, fun L nd hs => ?_, fun p L hp nd hs hall => ?_⟩
      · obtain ⟨y, hy, rfl⟩ := List.mem_map.mp hp
        exact (hr y hy).2
      · obtain ⟨l2, rfl, hs2, nd2⟩ := inl nd hs
        rw [List.length_map, ← List.length_map (f := fun y : AT => y.2)]
        refine Nat.lt_of_le_of_lt (nodup_sub (m := ddS ks) nd2 fun x hx => ?_) hw.2
        obtain ⟨y, hy, rfl⟩ := List.mem_map.mp hx
        rw [ddS_mem, ek]
        exact List.mem_map.mpr ⟨y, hs2 y hy, rfl⟩
      · obtain ⟨l2, rfl, hs2, nd2⟩ := inl nd hs
        have hmem : ∀ x, x ∈ l2.map (·.2) ↔ x ∈ ks := fun x => by
          refine ⟨fun hx => ?_, fun hx => ?_⟩
          · obtain ⟨y, hy, rfl⟩ := List.mem_map.mp hx
            rw [ek]; exact List.mem_map.mpr ⟨y, hs2 y hy, rfl⟩
          · rw [ek] at hx
            obtain ⟨y, hy, rfl⟩ := List.mem_map.mp hx
            have := hall (memOf y) (List.mem_map.mpr ⟨y, hy, rfl⟩)
            rw [List.map_map] at this
            obtain ⟨y', hy', ey⟩ := List.mem_map.mp this
            have : y'.2 = y.2 := memOf_inj ey
            exact List.mem_map.mpr ⟨y', hy', this⟩
        have pm := perm_dd nd2 hmem
        have s1 := Same.new (o := SetTO X.prog X.w p (l2.map memOf)) hp
        have al1 : AllocO O (upd H p (SetTO X.prog X.w p (l2.map memOf))) := fun a z hn => by
          by_cases hap : a = p
          · rw [hap, upd_same] at hn; cases hn
          · rw [upd_ne hap] at hn; exact al a z hn
        have rr1 : Rps X.K H O (l2.map fun y => tupS y.2) (l2.map fun y => V.ref y.1) := rps_of fun y hy => (hr y (hs2 y hy)).1
        have rr2 := Rps.step (Stp.same s1) _ _ rr1
        have hlen : l2.length < 63 := by
          rw [← List.length_map (f := fun y : AT => y.2), pm.length_eq]; exact hw.2
        have hsrt : srtT (l2.map fun y => tupS y.2) = .ok (.lst ((sortL (ddS ks)).map tupS)) := by
          have hm2 : (l2.map fun y => tupS y.2) = (l2.map (·.2)).map tupS := by rw [List.map_map]; rfl
          rw [hm2]
          have hln : ∀ ss ∈ l2.map (·.2), ss.length = widT xs := fun ss hs => by
            obtain ⟨y, hy, rfl⟩ := List.mem_map.mp hs
            exact hn y (hs2 y hy)
          have hne : l2.map (·.2) ≠ [] := fun z => by
            have hks : ks ≠ [] := fun z2 => by
              subst z2
              cases xs with
              | nil => simp [widT] at hw
              | cons d r =>
                have := (keysA_is hA).1
                simp at this
            obtain ⟨x, hx⟩ := List.exists_mem_of_ne_nil ks hks
            have := (hmem x).mpr hx
            rw [z] at this
            cases this
          have hwid : widT ((l2.map (·.2)).map tupS) = widT xs := by
            cases hl2 : l2.map (·.2) with
            | nil => exact absurd hl2 hne
            | cons a r =>
              have := hln a (by rw [hl2]; exact List.mem_cons_self)
              simp [widT, tupS, this]
          unfold srtT
          rw [hwid, keysA_map hln]
          dsimp only
          rw [if_pos hw.1, sortL_eq pm]
        refine ⟨p, l2.map memOf, O, l2.map fun y => tupS y.2, _, rfl, upd_same, by rw [List.length_map]; omega, al1, ?_, hsrt, fun v H' s2 nw => ?_⟩
        · rw [List.map_map]; exact rr2
        · refine q v H' (s1.trans s2) ⟨nw.1, fun hm => ?_⟩
          obtain ⟨a, e1, e2, e3⟩ := nw.2 hm
          exact ⟨a, e1, s1.free e2, e3⟩
    · cases e
theorem CallR.or {f : Value} {r1 r2 : List V → Hp → VK → Prop} (h1 : CallR X f r1) (h2 : CallR X f r2) : CallR X f (fun xs H Q => r1 xs H Q ∨ r2 xs H Q) := by
  intro pins s σ H xs us Q I r h
  rcases h with h | h
  · exact h1 pins s σ H xs us Q I r h
  · exact h2 pins s σ H xs us Q I r h
theorem ssetX_or {xs : List D} {d : D} (e : ssetX xs = .ok d) : ssetX0 xs = .ok d ∨ ssetT xs = .ok d := by
  unfold ssetX at e
  unfold ssetX0
  split at e
  · exact .inl e
  · split at e
    · exact .inl e
    · exact .inr e
theorem rs_mono {xs : List V} {Q1 Q2 : VK} (h : rSetX X.K X.prog X.w xs H fun w H2 => Q1 w H2) (hq : ∀ w H2, Q1 w H2 → Q2 w H2 := by exact fun _ _ z => .inl z) : rSetX X.K X.prog X.w xs H Q2 := by
  obtain ⟨l, ks, e, sq, hl, q⟩ := h
  exact ⟨l, ks, e, sq, hl, fun p L a b c => hq _ _ (q p L a b c)⟩
theorem rt_mono {xs : List V} {Q1 Q2 : VK} (h : rSetT X.K X.prog X.w xs H fun w H2 => Q1 w H2) (hq : ∀ w H2, Q1 w H2 → Q2 w H2 := by exact fun _ _ z => .inr z) : rSetT X.K X.prog X.w xs H Q2 := by
  obtain ⟨l, ms, e, sq, hk, few, q⟩ := h
  exact ⟨l, ms, e, sq, hk, few, fun p L a b c d => hq _ _ (q p L a b c d)⟩
end
section
variable {c : Cn} {M : List Nat} {X : Cx} {pos : Pos}
/-- sorted(set(a)) -/
theorem pe_ssetD {a : Expr} {ca : E} {p p2 q : Pos} (hK : X.K = c.K) (hc : X.calm = true) (hu : X.A.units + 64 < cLine) (hg : Gl X "sorted") (hm : X.mg "sorted" = none) (hg2 : Gl X "set") (hm2 : X.mg "set" = none) (ha : PE X a (tE c M ca)) (hs : NoStar X a) :
    PE X (.Call (.Name "sorted" p) [.Call (.Name "set" p2) [a] [] q] [] pos) (tE c M (.u1 .sset ca)) := by
  have pset := pe_callTy (p := p2) (pos := q) (CallR.or (cr_setX hc hu) (cr_setT hc hu)) hg2 hm2 boot_set (pa_cons ha pa_nil (hs _)) (by decide +kernel) (by decide +kernel) (hs _)
  refine (pe_callB (CallR.or (cr_sortX hc) (cr_sortT hc)) hg hm boot_sorted (pa_cons pset pa_nil rfl) (by decide +kernel) (by decide +kernel) rfl).imp fun σ H Q ⟨H0, Oc, Ts, ρ, env, r⟩ => ?_
  simp only [ev] at r
  refine tE_step (Same.refl H) env r fun v H1 d1 s1 v1 env1 r1 => ?_
  obtain ⟨d, e, k⟩ := r1.nx (nx_u1 _ _)
  have kk : ∀ w H', Same H1 H' → Nw X.K H1 H' (Ow Oc M σ) d w → Q w H' := fun w H' s nw => k w H' (s1.trans s) (Vok.of rfl s1 (by rw [← hK]; exact nw))
  have v1' := v1.rb
  rw [← hK] at v1'
  cases d1 with
  | lst xs =>
    obtain ⟨l, vs, rfl, sq, _, rr⟩ := rb_lst v1'
    rcases ssetX_or e with e | e
    · exact .inl (rs_mono (sset_core env1.alloc rr (.inl (SqL.of sq)) e kk))
    · exact .inr (rt_mono (ssetT_core env1.alloc rr (.inl (SqL.of sq)) e kk))
  | tup xs =>
    obtain ⟨l, vs, rfl, sq, _, rr⟩ := rb_tup v1'
    rcases ssetX_or e with e | e
    · exact .inl (rs_mono (sset_core env1.alloc rr (.inr sq) e kk))
    · exact .inr (rt_mono (ssetT_core env1.alloc rr (.inr sq) e kk))
  | _ => cases e
end
end MT
end
section
set_option Elab.async false
set_option linter.all false
set_option maxRecDepth 100000
set_option maxHeartbeats 4000000
/-! Mt1: t[::-1] of tuples. -/
namespace MT
open PySem PySem.Spec L2 PyProof.Rows HT
variable [Pw]
theorem adjust_rev (n : Nat) : Builtin.Slice.sliceAdjust none none (-1) (n : Int) = ((n : Int) - 1, -1) := by
  unfold Builtin.Slice.sliceAdjust
  rfl
theorem places_rev (n : Nat) : Builtin.Slice.slicePlaces ((n : Int) - 1) (-1) (-1) = n := by
  unfold Builtin.Slice.slicePlaces
  rw [if_neg (by omega)]
  by_cases h : ((n : Int) - 1) > -1
  · rw [if_pos h]
    have : ((n : Int) - 1 - -1 - 1) / (- -1) = (n : Int) - 1 := by
      rw [show (- -1 : Int) = 1 by omega, Int.ediv_one]; omega
    rw [this]; omega
  · rw [if_neg h]; omega
theorem pick_rev (xs : List Value) : ((List.range xs.length).filterMap fun (m : Nat) => xs.toArray[((xs.length : Int) - 1 + (m : Int) * (-1)).toNat]?) = xs.reverse := by
  have key : ∀ m ∈ List.range xs.length, xs.toArray[((xs.length : Int) - 1 + (m : Int) * (-1)).toNat]? = some (xs.reverse.getD m .none) := by
    intro m hm
    have hm' := List.mem_range.mp hm
    have e : ((xs.length : Int) - 1 + (m : Int) * (-1)).toNat = xs.length - 1 - m := by omega
    rw [e, List.getElem?_toArray, List.getD_eq_getElem?_getD, List.getElem?_reverse hm', List.getElem?_eq_getElem (by omega)]
    rfl
  have fm : ∀ (l : List Nat) (f : Nat → Option Value) (g : Nat → Value), (∀ m ∈ l, f m = some (g m)) → l.filterMap f = l.map g := by
    intro l f g h
    induction l with
    | nil => rfl
    | cons a r ih =>
      rw [List.filterMap_cons, h a List.mem_cons_self, ih fun m hm => h m (List.mem_cons_of_mem _ hm)]
      rfl
  rw [fm _ _ (fun m => xs.reverse.getD m .none) key]
  apply List.ext_getElem
  · simp
  · intro i h1 h2
    simp at h1
    simp [h1]
section
variable {prog : Program} {w : World} {A : Around} {E : Value → Shared → Prop} {s : Shared}
theorem sliceApplied_rev {sl : Addr} {vs : Value} {n : Nat} {Q : Int × Int × Nat → Shared → Prop} (hs : s.heap.IsSliceOf sl .none .none vs) (pl : IsPart vs (some (-1)))
    (h : Q ((n : Int) - 1, -1, n) s) : wpAny (model prog w) A (Builtin.Slice.sliceApplied (.ref sl) (pure (n : Int))) Q E s := by
  obtain ⟨os, hos, hcs, hds⟩ := id hs
  unfold Builtin.Slice.sliceApplied Builtin.Slice.sliceFields
  refine wpAny_bind (wpAny_bind (wpAny_field hos hds (x := .none) rfl (wpAny_bind (wpAny_field hos hds (x := .none) rfl (wpAny_bind (wpAny_field hos hds (x := vs) rfl (wpAny_pure ?_)))))))
  refine wpAny_bind (slicePart_ pl ?_)
  show wpAny _ _ (if ((-1 : Int) == 0) = true then _ else _) _ _ s
  rw [if_neg (by decide)]
  refine wpAny_bind (slicePart_none (wpAny_bind (slicePart_none (wpAny_bind (wpAny_pure ?_)))))
  show wpAny _ _ (match Builtin.Slice.sliceAdjust none none (-1) (n : Int) with | (lo, hi) => pure (lo, (-1 : Int), Builtin.Slice.slicePlaces lo hi (-1))) _ _ s
  rw [adjust_rev n]
  show wpAny _ _ (pure ((n : Int) - 1, (-1 : Int), Builtin.Slice.slicePlaces ((n : Int) - 1) (-1) (-1))) _ _ s
  rw [places_rev]
  exact wpAny_pure h
theorem getItem_tuple_rev {t sl : Addr} {items : List Value} {vs : Value} {Q : Value → Shared → Prop} (ht : IsTup s.heap t items.toArray) (hs : s.heap.IsSliceOf sl .none .none vs) (pl : IsPart vs (some (-1)))
    (h : Q (.ref s.heap.objs.size) { s with heap := s.heap.push { cls := .type "tuple", data := .seq items.reverse.toArray } })
    (hsz : items.length ≤ sizeLine) : wpAny (model prog w) A (getItem (.ref t) (.ref sl)) Q E s := by
  have htake : sizeOk (.seq items.reverse.toArray) := by
    show items.reverse.toArray.size ≤ sizeLine
    rw [List.size_toArray, List.length_reverse]
    exact hsz
  obtain ⟨os, hos, hcs, hds⟩ := id hs
  have hTs : s.TypeIs (.ref sl) "slice" := ⟨os, hos, hcs⟩
  unfold getItem
  try with_reducible refine wpAny_holding ?_
  first | refine wpAny_bind (wpAny_pure ?_) | skip
  refine wpAny_bind (wpAny_sequenceKey ht.typeIs (by decide) ?_)
  refine wpAny_bind (wpAny_callSpecial?_slot (name := Str.ofString "__getitem__") ht.typeIs PyProof.Rows.slot_tuple_getitem
    (wpAny_call_entry PyProof.Rows.slot_tuple_getitem ht.typeIs entry_tuple_getitem ?_ (args_tuple_getitem _ _)))
  show wpAny _ _ (Builtin.Tuple.tupleItemsOf (.ref t) >>= _) _ _ s
  refine wpAny_bind (tupleItemsOf_ ht ?_)
  refine wpAny_bind (wpAny_typeOf hTs ?_)
  rw [if_pos (by decide)]
  refine wpAny_bind (sliceApplied_rev hs pl ?_)
  show wpAny _ _ (if (((items.toArray.size : Int) - 1 == 0) && (-1 : Int) == 1 && items.toArray.size == items.toArray.size) = true then _ else _) _ _ s
  rw [if_neg (by simp), List.size_toArray, pick_rev]
  first
    | exact wpAny_bind (m := Builtin.Tuple.tupleExact _) (wpAny_newObj_type (wpAny_pure ⟨_, rfl, wpAny_pure h⟩) htake)
    | exact wpAny_bind (m := Builtin.Tuple.tupleExact _) (wpAny_newObj_type (wpAny_bind (wpAny_pure (wpAny_pure ⟨_, rfl, wpAny_pure h⟩))) htake)
    | exact wpAny_bind (wpAny_bind (m := Builtin.Tuple.tupleExact _) (wpAny_newObj_type (wpAny_pure (wpAny_pure ⟨_, rfl, wpAny_pure h⟩)) htake))
    | exact wpAny_bind (wpAny_bind (m := Builtin.Tuple.tupleExact _) (wpAny_newObj_type (wpAny_pure ⟨_, rfl, wpAny_pure h⟩) htake))
end
section
variable {X : Cx} {e st : Expr} {te ts : TE} {pos p2 : Pos}
def tRev (te ts : TE) (K : PySem.W.Frag) : TE := fun σ H Q => te σ H fun x H1 => ts σ H1 fun y H2 => y = .int (-1) ∧ ∃ a xs, x = .ref a ∧ SqT K H2 a xs ∧ NewT H2 Q xs.reverse
theorem pe_rev (he : PE X e te) (hs : PE X st ts) : PE X (.Subscript e (.Slice none none (some st) p2) pos) (tRev te ts X.K) := by
  refine ⟨fun pins s σ H Q I h => ?_⟩
  refine Subscript_ (thn (he.run pins s σ H _ I h) fun v s1 ⟨x, H1, I1, r1, q1⟩ => ?_)
  refine wpAny_Slice ?_
  rw [evalPart_none]
  refine wpAny_pure ?_
  refine wpAny_pure ?_
  rw [evalPart_some]
  refine thn (hs.run pins s1 σ H1 _ I1 q1) fun u s2 ⟨y, H2, I2, r2, q2⟩ => ?_
  obtain ⟨rfl, a, xs, rfl, hx, q⟩ := q2
  obtain ⟨tk, rfl⟩ := r2
  cases r1
  have I4 : Inv X pins σ H2 { s2 with heap := s2.heap.push { cls := .type "slice", data := .fields #[.none, .none, .int (-1) tk] } } := I2.kept (t' := s2.toks) fun b ob q => Heap.get?_push_of_some _ q
  obtain ⟨its, r, ht, hz⟩ := I4.tuple hx
  have hg : wpAny (model X.prog X.w) X.A (getItem (.ref a) (.ref s2.heap.objs.size)) (EP X pins σ Q) X.xe { s2 with heap := s2.heap.push { cls := .type "slice", data := .fields #[.none, .none, .int (-1) tk] } } := by
    refine getItem_tuple_rev ht (Heap.IsSliceOf.new ..) (.int (-1) tk) ?_ (by rw [← r.length]; exact hz)
    exact laidF (k := s2.toks) I4 r.reverse (by rw [List.length_reverse]; exact hz) q
  show wpAny (model X.prog X.w) X.A (subscriptTail e (.Slice none none (some st) p2) (.ref a) (.ref s2.heap.objs.size)) (EP X pins σ Q) X.xe { s2 with heap := s2.heap.push { cls := .type "slice", data := .fields #[.none, .none, .int (-1) tk] } }
  exact tail_any (ops := [.ref a, .ref s2.heap.objs.size]) ht.typeIs PyProof.Rows.slot_tuple_getitem.lookup hg (by with_unfolding_all rfl)
variable {c : Cn} {M : List Nat}
theorem Rps.rev {K : PySem.W.Frag} {H : Hp} {O : Addr → Prop} : ∀ {ds : List D} {vs : List V}, Rps K H O ds vs → Rps K H O ds.reverse vs.reverse
  | [], vs, h => by rw [h.inv0]; exact Rps.nil
  | d :: ds, vs, h => by
    obtain ⟨v, r, rfl, h1, h2⟩ := h.inv
    rw [List.reverse_cons, List.reverse_cons]
    exact (Rps.rev h2).append (Rps.cons h1 Rps.nil)
theorem pe_revD {a : Expr} {ca : E} (hK : X.K = c.K) (ha : PE X a (tE c M ca)) (hs : PE X st (tE c M (.neg (.cst (.int 1))))) : PE X (.Subscript a (.Slice none none (some st) p2) pos) (tE c M (.u1 .rev ca)) := by
  refine (pe_rev ha hs).imp fun σ H Q ⟨H0, Oc, Ts, ρ, env, r⟩ => ?_
  simp only [ev] at r
  refine tE_step (Same.refl H) env r fun x H1 d1 s1 v1 env1 r1 => ?_
  refine ⟨H0, Oc, Ts, ρ, env1, ?_⟩
  have e1 : ev c.F (.neg (.cst (.int 1))) ρ = .ok (.int (-1)) := rfl
  rw [e1]
  intro v H2 s2 v2
  refine ⟨rb_int v2.rb, ?_⟩
  cases d1 with
  | tup xs =>
    obtain ⟨p, vs, e1, sq, hl, rr⟩ := rb_tup (Rb.same s2 v1.rb)
    rw [hK]
    refine ⟨p, vs, e1, sq, fun l o hl' ho => ?_⟩
    exact r1 _ _ ((s1.trans s2).trans (Same.new hl')) (Vok.of rfl (s1.trans s2) (nw_tup hl' ho (by rw [List.length_reverse]; exact hl) rr.rev))
  | _ => exact r1.elim
theorem upC_eq (c : Nat) : upC c = PyProof.Rows.up1 c := rfl
theorem pe_upperD {o : Expr} {co : E} {apos : Pos} (ho : PE X o (tE c M co)) (hb : attributeBase o "upper" X.env (eval o X.env) = eval o X.env) (hl : (apos.endLine == pos.line) = true) : PE X (.Call (.Attribute o "upper" apos) [] [] pos) (tE c M (.u1 .upper co)) := by
  refine ⟨fun pins s σ H Q I ⟨H0, Oc, Ts, ρ, env, r⟩ => ?_⟩
  simp only [ev] at r
  refine J1.ev_upper hb hl (thn (ho.run pins s σ H (fun v H1 => ∃ s', v = .str (toS s') ∧ okS s' ∧ s'.all (fun c => decide (c < 128)) = true ∧ s'.length ≤ 10000 ∧ Q (.str (toS (s'.map upC))) H1) I (tE_step (Same.refl H) env r fun v H1 d1 s1 v1 env1 r1 => ?_)) fun u s1 ⟨x, H1, I1, rx, s', ex, ok, ha, hlen, q⟩ => ?_)
  · obtain ⟨d, e, k⟩ := r1.nx (nx_u1 _ _)
    cases d1 with
    | str s' =>
      simp only [u1D] at e
      split at e
      · rename_i hc
        cases e
        obtain ⟨e1, o1⟩ := rb_str v1.rb
        refine ⟨s', e1, o1, hc.1, hc.2, k _ H1 s1 (Vok.sc rfl rfl ⟨rfl, ?_⟩)⟩
        refine ⟨by rw [List.length_map]; exact o1.1, fun c hcm => ?_⟩
        obtain ⟨y, hy, rfl⟩ := List.mem_map.mp hcm
        have := o1.2 y hy
        unfold upC
        split <;> omega
      · cases e
    | _ => cases e
  · subst ex
    obtain ⟨t, rfl⟩ := rx
    have hu : Txt.upper (toS s') = toS (s'.map upC) := by
      rw [PyProof.Rows.upper_ascii (x := toS s') (fun c hc => of_decide_eq_true (List.all_eq_true.mp ha c hc))]
      exact TL.ext_tl (by show ((toS s').cps.map PyProof.Rows.up1).toList = _; rw [Array.toList_map] <;> rfl)
    refine ⟨toS s', t, rfl, by rw [len_toS]; omega, fun t' kk => ⟨.str (toS (s'.map upC)), H1, I1.kept (t' := kk) fun _ _ z => z, ⟨t', by rw [hu]⟩, q⟩⟩
end
end MT
end
section
set_option Elab.async false
set_option linter.all false
set_option maxRecDepth 100000
set_option maxHeartbeats 4000000
/-! MtO: the text is the small language's. -/
namespace MT
open PySem PySem.Spec L2
structure Tb where
  fn : Nat → Option Fn
  bl : List Str
  gl : List (Str × D)
  xr : List Nat := []
  xn : List Nat := []
  ev : Nat → Option Fn := fn
  cli : Nat → Nat × List Str := fun _ => (0, [])
  chl : Nat → Scope → Expr → Bool := fun _ _ _ => false
  chd : Nat → Scope → Stmt → Bool := fun _ _ _ => false
structure Sta where
  N : List Str
  sc : Scope
  M : List Nat
  stor : Str → Bool
  mkr : Option (List Nat) := none
def noStar : Expr → Bool
  | .Starred _ _ => false
  | _ => true
def noSl : Expr → Bool
  | .Slice _ _ _ _ => false
  | _ => true
def noSup : Expr → Bool
  | .Call (.Name _ _) [] [] _ => false
  | _ => true
def noCmp : Expr → Bool
  | .ListComp _ _ _ _ => false
  | .SetComp _ _ _ _ => false
  | .DictComp _ _ _ _ _ => false
  | _ => true
def noSet : Expr → Bool
  | .Set _ _ _ => false
  | _ => true
def noTup : Expr → Bool
  | .Tuple _ _ _ => false
  | _ => true
def visB (sc : Scope) (x : Str) : Bool := match sc.names.lookup x with
  | some .local => true | some .cell => true | some .free => true
  | _ => false
def locB (sc : Scope) (x : Str) : Bool := match sc.names.lookup x with
  | some .local => true | some .cell => true
  | _ => false
def glB (sc : Scope) (x : Str) : Bool := match sc.names.lookup x with
  | some .globalImplicit => true
  | _ => false
def lB (sc : Scope) (x : Str) : Bool := match sc.names.lookup x with
  | some .local => true
  | _ => false
def okN (x : Str) : Bool := !(x == ("__debug__" : Str)) && !(x == ("__classdict__" : Str))
def chkN (Γ : Sta) (i : Nat) (x : Str) : Bool := decide (Γ.N[i]? = some x) && visB Γ.sc x && okN x
def chkS (Γ : Sta) (i : Nat) (x : Str) : Bool := decide (Γ.N[i]? = some x) && locB Γ.sc x && (Γ.stor x || lB Γ.sc x)
def chkB (T : Tb) (Γ : Sta) (x y : Str) : Bool := decide (x = y) && glB Γ.sc x && T.bl.contains x
def opA : Op2 → Operator
  | .add => .Add | .sub => .Sub | .mul => .Mult | .mod => .Mod | .fdiv => .FloorDiv | .pow => .Pow
def cmA : Cm → CmpOp
  | .eq => .Eq | .ne => .NotEq | .lt => .Lt | .le => .LtE | .gt => .Gt | .ge => .GtE | .inn => .In | .nin => .NotIn | .is => .Is | .isn => .IsNot
def tgOk (Γ : Sta) : List Nat → List Expr → Bool
  | [], [] => true
  | i :: r, .Name x _ :: q => chkS Γ i x && !Γ.M.contains i && tgOk Γ r q
  | _, _ => false
def chkT (Γ : Sta) : Tg → Expr → Bool
  | .one i, .Name x _ => chkS Γ i x && !Γ.M.contains i
  | .tup is, .Tuple es _ _ => tgOk Γ is es
  | _, _ => false
def isTupE : Expr → Bool
  | .Tuple _ _ _ => true
  | _ => false
/-- the block's own names, with their places -/
def ownOf (N : List Str) (own : List Nat) : List (Str × Nat) := own.map fun i => (N.getD i "", i)
def blkSta (Γ : Sta) (scope : Scope) : Sta := { N := Γ.N, sc := relS scope Γ.sc, M := Γ.M, stor := fun x => decide (scope.names.lookup x = some .cell) }
def frT (T : Tb) (f : Nat) : Bool := match T.fn f with | some fn => fn.fr | none => false
/-- the built-ins that are served -/
def bltOk : Bl → Bool
  | .len => true | .all => true | .any => true | .tuple => true | .list => true | .int => true | .abs => true | .sorted => true | .dict => true | .str => true
def chkTy (T : Tb) (Γ : Sta) (t : Ty) : Expr → Bool
  | .Name z _ => match tyOne t with | some n => chkB T Γ z (Str.ofString n) | none => false
  | .Tuple [.Name z _, .Name y _] _ _ => decide (t = .intstr) && chkB T Γ z (Str.ofString "int") && chkB T Γ y (Str.ofString "str")
  | _ => false
def nU1 : U1 → Str
  | .sset => "sorted" | _ => "len"
/-- f(g(y)) -/
def u1Ok (T : Tb) (u : U1) (Γ : Sta) : Expr → Bool
  | .Call (.Name f _) [.Call (.Name g _) [y] [] _] [] _ => decide (u ≠ .rev) && decide (u ≠ .upper) && chkB T Γ f (nU1 u) && chkB T Γ g "set" && noStar y
  | .Call (.Attribute y n ap) [] [] p => decide (u = .upper) && decide (n = ("upper" : Str)) && (ap.endLine == p.line) && noSup y && noStar y
  | .Subscript y (.Slice none none (some (.UnaryOp .USub (.Constant k _ _) _)) _) _ => decide (u = .rev) && chkC (.int 1) k && noStar y
  | _ => false
def u1A : Expr → Expr
  | .Call (.Attribute y _ _) [] _ _ => y
  | .Call _ [.Call _ [y] _ _] _ _ => y
  | .Subscript y _ _ => y
  | x => x
def u2Ok (T : Tb) : U2 → Sta → Expr → Bool
  | .min, Γ, .Call (.Name f _) [y, z] [] _ => chkB T Γ f "min" && noStar y && noStar z
  | .tix, Γ, .Call (.Attribute y n ap) [z] [] p => decide (n = ("index" : Str)) && (ap.endLine == p.line) && noSup y && noStar z
  | _, _, _ => false
def u2A : Expr → Expr
  | .Call (.Name _ _) [y, _] _ _ => y
  | .Call (.Attribute y _ _) _ _ _ => y
  | x => x
def u2B : Expr → Expr
  | .Call _ [_, z] _ _ => z
  | .Call _ [z] _ _ => z
  | x => x
mutual
def chkE (T : Tb) : E → Sta → Expr → Bool
  | .var i, Γ, .Name x _ => chkN Γ i x
  | .cst d, _, .Constant k _ _ => chkC d k
  | .glb x d, Γ, .Name y _ => decide (y = toS x) && glB Γ.sc y && okN y && T.gl.any fun p => decide (p.1 = y) && decide (p.2 = d)
  | .tup es, Γ, .Tuple xs _ _ => chkA T es Γ xs && decide (es.length ≤ LIM)
  | .lst es, Γ, .List xs _ => chkA T es Γ xs && decide (es.length ≤ LIM)
  | .dk0, _, .Dict [] [] _ => true
  | .dt0, _, .Dict [] [] _ => true
  | .bin op a b, Γ, .BinOp x o y _ => decide (o = opA op) && chkE T a Γ x && chkE T b Γ y
  | .neg a, Γ, .UnaryOp .USub x _ => chkE T a Γ x
  | .cmp op a b, Γ, .Compare x [o] [y] _ => decide (o = cmA op) && !behindInMarks o y && chkE T a Γ x && chkE T b Γ y
  | .chn o1 o2 a b d, Γ, .Compare x [p1, p2] [y, z] _ => decide (p1 = cmA o1) && decide (p2 = cmA o2) && !lastMarks [p1, p2] [y, z] && chkE T a Γ x && chkE T b Γ y && chkE T d Γ z
  | .and es, Γ, .BoolOp .And xs _ => chkV T es Γ xs && !xs.isEmpty
  | .or es, Γ, .BoolOp .Or xs _ => chkV T es Γ xs && !xs.isEmpty
  | .not a, Γ, .UnaryOp .Not x _ => chkE T a Γ x
  | .ite t a b, Γ, .IfExp u x y _ => chkQ T t Γ u && chkE T a Γ x && chkE T b Γ y && !bor Γ.M a && !bor Γ.M b
  | .idx a b, Γ, .Subscript x y _ => noSl y && chkE T a Γ x && chkE T b Γ y
  | .sli a lo hi, Γ, .Subscript x (.Slice l h none _) _ => chkE T a Γ x && (match l with | none => lo.abs | some y => !lo.abs && chkE T lo Γ y) && (match h with | none => hi.abs | some y => !hi.abs && chkE T hi Γ y)
  | .call f es, Γ, .Call (.Name x _) xs [] _ => (match T.fn f with | some fn => decide (x = toS fn.name) && decide (es.length = fn.ps) | none => false) && glB Γ.sc x && chkA T es Γ xs
  | .blt b a, Γ, .Call (.Name x _) [y] [] _ => bltOk b && chkB T Γ x (nBl b) && noStar y && chkE T a Γ y
  | .mth m o a, Γ, .Call (.Attribute x n ap) [y] [] p => decide (n = nmM m) && noSup x && noStar y && (ap.endLine == p.line) && chkE T o Γ x && chkE T a Γ y
  | .get o k d, Γ, .Call (.Attribute x n ap) [y, z] [] p => decide (n = ("get" : Str)) && noSup x && noStar y && noStar z && (ap.endLine == p.line) && chkE T o Γ x && chkE T k Γ y && chkE T d Γ z && !bor Γ.M d
  | .isi a t, Γ, .Call (.Name x _) [y, z] [] _ => chkB T Γ x "isinstance" && noStar y && chkE T a Γ y && chkTy T Γ t z
  | .callb f es, Γ, .Call (.Name x _) xs [] _ => (match T.fn f with | some fn => decide (x = toS fn.name) && decide (es.length = fn.ps) | none => false) && glB Γ.sc x && xs.all noStar && !xs.isEmpty && chkV T es Γ xs
  | .u1 u a, Γ, x => u1Ok T u Γ x && chkE T a Γ (u1A x)
  | .u2 u a b, Γ, x => u2Ok T u Γ x && chkE T a Γ (u2A x) && chkE T b Γ (u2B x)
  | .fnv f, Γ, .Name x _ => (match T.fn f with | some fn => decide (x = toS fn.name) | none => false) && glB Γ.sc x && decide (f < 1000000)
  | .calv i es, Γ, .Call (.Name x _) xs [] _ => chkN Γ i x && !xs.isEmpty && chkA T es Γ xs
  | .cwc g [e] c js, Γ, .Call (.Name x _) [y, l] [] _ => (match T.fn g with | some fn => decide (x = toS fn.name) && decide (2 = fn.ps) | none => false) && glB Γ.sc x && chkE T e Γ y && !bor Γ.M e && noStar y &&
      decide (Γ.mkr = some [60, 108, 97, 109, 98, 100, 97, 62]) && T.chl c Γ.sc l && decide (js.map (fun j => Γ.N[j]?) = (T.cli c).2.map some)
  | .calw i [a, b], Γ, .Call (.Name x _) [y, z] [] _ => chkN Γ i x && chkE T a Γ y && chkE T b Γ z && !bor Γ.M a && !bor Γ.M b && noStar y && noStar z && fresh (frT T) b
  | .lc own tg it ifs e, Γ,   .ListComp x [⟨te, ie, fs, ay⟩] scope _ =>
      decide (ay = 0) && chkI T it Γ ie (isTupE te) && noSet ie && blkC Γ.N Γ.sc scope (ownOf Γ.N own) && (own.all fun i => !Γ.M.contains i) && (match tg with | .one i => own.contains i | .tup is => is.all own.contains) &&
      chkT (blkSta Γ scope) tg te && chkF T ifs (blkSta Γ scope) fs && chkE T e (blkSta Γ scope) x && !bor Γ.M e
  | _, _, _ => false
/-- arguments: none is borrowed, none starred -/
def chkA (T : Tb) : List E → Sta → List Expr → Bool
  | [], _, [] => true
  | e :: r, Γ, x :: q => chkE T e Γ x && !bor Γ.M e && noStar x && chkA T r Γ q
  | _, _, _ => false
def chkV (T : Tb) : List E → Sta → List Expr → Bool
  | [], _, [] => true
  | e :: r, Γ, x :: q => chkE T e Γ x && chkV T r Γ q
  | _, _, _ => false
def chkI (T : Tb) : Ir → Sta → Expr → Bool → Bool
  | .seq e, Γ, x, _ => chkE T e Γ x
  | .rng1 e, Γ, .Call (.Name n _) [x] [] _, _ => chkB T Γ n "range" && noStar x && chkE T e Γ x
  | .rng2 a b, Γ, .Call (.Name n _) [x, y] [] _, _ => chkB T Γ n "range" && noStar x && noStar y && chkE T a Γ x && chkE T b Γ y
  | .enm e, Γ, .Call (.Name n _) [x] [] _, tu => tu && chkB T Γ n "enumerate" && noStar x && chkE T e Γ x && !bor Γ.M e
  | .zip a b, Γ, .Call (.Name n _) [x, y] [] _, tu => tu && chkB T Γ n "zip" && noStar x && noStar y && chkE T a Γ x && chkE T b Γ y && !bor Γ.M a && !bor Γ.M b
  | _, _, _, _ => false
/-- tests -/
def chkQ (T : Tb) : E → Sta → Expr → Bool
  | .not a, Γ, .UnaryOp .Not x _ => chkQ T a Γ x
  | .and es, Γ, .BoolOp .And xs _ => chkQs T es Γ xs && !xs.isEmpty
  | .or es, Γ, .BoolOp .Or xs _ => chkQs T es Γ xs && !xs.isEmpty
  | .var i, Γ, .Name x _ => chkN Γ i x
  | .cmp op a b, Γ, .Compare x [o] [y] _ => decide (o = cmA op) && !behindInMarks o y && chkE T a Γ x && chkE T b Γ y
  | .chn o1 o2 a b d, Γ, .Compare x [p1, p2] [y, z] _ => decide (p1 = cmA o1) && decide (p2 = cmA o2) && !lastMarks [p1, p2] [y, z] && chkE T a Γ x && chkE T b Γ y && chkE T d Γ z
  | .call f es, Γ, .Call (.Name x _) xs [] _ => (match T.fn f with | some fn => decide (x = toS fn.name) && decide (es.length = fn.ps) | none => false) && glB Γ.sc x && chkA T es Γ xs
  | .blt b a, Γ, .Call (.Name x _) [y] [] _ => bltOk b && chkB T Γ x (nBl b) && noStar y && chkE T a Γ y
  | .isi a t, Γ, .Call (.Name x _) [y, z] [] _ => chkB T Γ x "isinstance" && noStar y && chkE T a Γ y && chkTy T Γ t z
  | .lc own tg it ifs e, Γ,   .ListComp x [⟨te, ie, fs, ay⟩] scope _ =>
      decide (ay = 0) && chkI T it Γ ie (isTupE te) && noSet ie && blkC Γ.N Γ.sc scope (ownOf Γ.N own) && (own.all fun i => !Γ.M.contains i) && (match tg with | .one i => own.contains i | .tup is => is.all own.contains) &&
      chkT (blkSta Γ scope) tg te && chkF T ifs (blkSta Γ scope) fs && chkE T e (blkSta Γ scope) x && !bor Γ.M e
  | _, _, _ => false
def chkQs (T : Tb) : List E → Sta → List Expr → Bool
  | [], _, [] => true
  | e :: r, Γ, x :: q => chkQ T e Γ x && chkQs T r Γ q
  | _, _, _ => false
/-- the ifs of a comprehension: one at most -/
def chkF (T : Tb) : List E → Sta → List Expr → Bool
  | [], _, [] => true
  | [e], Γ, [x] => chkQ T e Γ x
  | _, _, _ => false
end
end MT
end
section
set_option Elab.async false
set_option linter.all false
set_option maxRecDepth 100000
set_option maxHeartbeats 4000000
/-! Mt0: closures: made, handed over, called. -/
namespace MT
open PySem PySem.Spec L2 LamX NdefX
def Tb.zero (T : Tb) : Tb := { T with chl := fun _ _ _ => false, chd := fun _ _ _ => false }
def lamSta (fn : Fn) (scope : Scope) : Sta := { N := fn.names.map toS, sc := scope, M := [], stor := fun _ => false }
/-- one plain parameter -/
def plain1 : Arguments → Option Str
  | ⟨[], [a], none, [], [], none, []⟩ => some a.arg
  | _ => none
/-- the text of a lambda is the small language's -/
def chlOf (T : Tb) (c : Nat) (sc : Scope) : Expr → Bool
  | .Lambda params body scope _ => (match plain1 params, T.ev (3000000 + c) with
    | some p, some fn => (match fn.body with
      | [.ret e] => decide ((T.cli c).1 = 1) && decide (fn.ps = 1 + (T.cli c).2.length) && decide (fn.ps ≤ fn.names.length) && decide (fn.M = []) && nscB (fn.names.map toS) [p] (T.cli c).2 scope && ndefB sc scope (T.cli c).2 && chkE T e (lamSta fn scope) body
      | _ => false)
    | _, _ => false)
  | _ => false
abbrev lamObj (q : Str) (params : Arguments) (body : Expr) (scope : Scope) (cl : List (Str × Addr)) (pm : Value) (c' : Addr) (ctv : Value) : Obj := PySem.W.kla_obj "<lambda>" q params body scope cl pm c' ctv
/-- a lambda at a, with what it keeps -/
def LamF [Pw] (T : Tb) (K : PySem.W.Frag) (base : Heap) (outer : List Env) (s : Shared) (H : Hp) (cid : Nat) (a : Addr) (ds : List D) : Prop :=
  ∃ (sc : Scope) (params : Arguments) (body : Expr) (scope : Scope) (lpos : Pos) (q : Str) (cl : List (Str × Addr)) (pm : Value) (c' : Addr) (ctv : Value) (cells : List (Addr × Obj)) (vs : List V),
    chlOf T.zero cid sc (.Lambda params body scope lpos) = true ∧ H a = some (.frz (lamObj q params body scope cl pm c' ctv) (.own a)) ∧ H c' = some (CodeO c' q) ∧ CellsAt cl (T.cli cid).2 (vs.map some) s.heap H ∧ Rps K H (fun _ => False) ds vs ∧
    Fre base outer s H cells ∧ ∀ y c, cl.lookup y = some c → ∃ o, cells.lookup c = some o
/-- an inner def at a, with what it keeps -/
def NdF [Pw] (T : Tb) (K : PySem.W.Frag) (base : Heap) (outer : List Env) (s : Shared) (H : Hp) (cid : Nat) (a : Addr) (ds : List D) : Prop :=
  ∃ (sc : Scope) (name : Str) (params : Arguments) (body : List Stmt) (scope : Scope) (pos : Pos) (q : Str) (cl : List (Str × Addr)) (c' : Addr) (cells : List (Addr × Obj)) (vs : List V),
    T.chd cid sc (.FunctionDef name params body [] none [] scope none name pos) = true ∧ H a = some (FnO a ⟨name, q, params, body, scope, cl, c'⟩) ∧ H c' = some (CodeO c' q) ∧ CellsAt cl (T.cli cid).2 (vs.map some) s.heap H ∧ Rps K H (fun _ => False) ds vs ∧
    Fre base outer s H cells ∧ ∀ y c, cl.lookup y = some c → ∃ o, cells.lookup c = some o
def ClF [Pw] (T : Tb) (K : PySem.W.Frag) (base : Heap) (outer : List Env) (s : Shared) (H : Hp) (cid : Nat) (a : Addr) (ds : List D) : Prop := LamF T K base outer s H cid a ds ∨ NdF T K base outer s H cid a ds
/-- what a def promises that is handed a closure -/
def TakP [Pw] (T : Tb) (P : Program) (w : World) (mg : Str → Option Value) (base : Heap) (c : Cn) (k g : Nat) (fn : Fn) : Prop :=
  ∃ (ga : Addr) (fd : FuncData) (ps : List Str), mg (toS fn.name) = some (.ref ga) ∧ PySem.W.keepIn c.K (.ref ga) = true ∧ Binds c.K fd ps [] ∧ ps.length = fn.ps ∧
    ∀ (A : Around) (outer : List Env) (s : Shared) (H : Hp) (us : List Value) (vs : List V) (ds : List D) (cid : Nat) (a : Addr) (cs : List D) (Q : VK), Room k A → Env0 P w c.K mg base A outer s H → Vals vs us → D.pures ds = true → Rps c.K H (fun _ => False) ds vs → ds.length + 1 = fn.ps →
      D.pures cs = true → ClF T c.K base outer s H cid a cs → Tabs Pw.tb H → Run (pureR (c.F (2000000 + g) (ds ++ [.dt [] (.int cid :: cs)]))) (fun d => ∀ v H', Same H H' → Rp c.K H' (fun _ => False) d v → Q v H') (fun _ => False) →
      codeAny (model P w) A (.call (.ref ga) ⟨us ++ [.ref a], []⟩) (CR (L2.CX P w) outer P w H s Q fun _ _ _ => False) s
section
variable [Pw] {X : Cx} {pins : List (Addr × Obj)} {σ : L2.St} {H : Hp} {s : Shared}
theorem inv_lam {o : Obj} {t' : Nat} (I : Inv X pins σ H s) (ho : (s.heap.push o).get? s.heap.objs.size = some o) :
    Inv X pins σ (upd H s.heap.objs.size (.frz o (.own s.heap.objs.size))) { s with heap := s.heap.push o, toks := t' } :=
  I.laid (a := s.heap.objs.size) (fun b u e => Heap.get?_push_of_some _ e) (Nat.le_refl _) ⟨ho, ⟨o, ho⟩⟩
/-- the reading of a lambda -/
def tLm (q : Str) (params : Arguments) (body : Expr) (scope : Scope) (cl : List (Str × Addr)) : TE := fun _ H Q => Tabs Pw.tb H ∧ ∀ (f c' : Addr) (pm ctv : Value) (H1 : Hp), Same H H1 → H1 f = some (.frz (lamObj q params body scope cl pm c' ctv) (.own f)) →
  H1 c' = some (CodeO c' q) → Q (.ref f) H1
theorem pe_lam {c P : Addr} {params : Arguments} {body : Expr} {scope : Scope} {pos : Pos} (tb : TabB X.base X.mg c P) (hcode : X.env.code = .ref c)
    (hm : (P, X.env.qual ++ "<lambda>") ∈ Pw.tb) (hu : ∀ p ∈ Pw.tb, p.1 = P → p.2 = X.env.qual ++ "<lambda>") (hdef : defaultsOf params X.env = ([], [])) (hfree : X.Ok → ∀ y ∈ scope.names, y.2 = .free → ∃ c, X.env.cells.lookup y.1 = some c) :
    PE X (.Lambda params body scope pos) (tLm (X.env.qual ++ "<lambda>") params body scope (cloFrom X.env.cells scope.names [])) := by
  refine ⟨fun pins s σ H Q I hh => ?_⟩
  obtain ⟨hT, h⟩ := hh
  obtain ⟨ps, tP, tr, all⟩ := hT _ hm
  have bi : s.heap.BuiltinsAt X.mg P := tb.bm.keeps I.bk
  have oP : s.heap.get? P = some { cls := .none, data := .fields ps } := I.hok P _ tP
  refine PySem.W.kla_eval hdef ?_
  cases hit : codeAmong pos ps.toList with
  | some cv =>
    obtain ⟨c1, rfl, co⟩ := all pos cv hit
    refine PySem.W.kla_makeFunctionHit (closure_ok (hfree I.ok)) I.ok.glob (I.mod.glob.keeps I.bk) hcode (tb.code.keeps I.bk) oP tr hit bi fun ctv hp tk ext big => ?_
    have J : Inv X pins σ H { s with heap := hp, toks := tk } := I.kept fun b o e => ext b o e
    have new : H hp.objs.size = none := J.hok.fresh (Nat.le_refl _)
    have J2 := inv_lam (t' := tk) (o := lamObj (X.env.qual ++ "<lambda>") params body scope (cloFrom X.env.cells scope.names []) ((X.mg "__name__").getD .none) c1 ctv) J (Heap.get?_push_size _ rfl)
    exact ⟨.ref hp.objs.size, _, J2, rfl, h _ c1 _ ctv _ (Same.new new) upd_same (by rw [upd_ne (ne_of_none co new)]; exact co)⟩
  | none =>
    refine PySem.W.kla_makeFunction (closure_ok (hfree I.ok)) I.ok.glob (I.mod.glob.keeps I.bk) hcode (tb.code.keeps I.bk) oP tr hit tb.gP bi fun c1 ctv hp tk ext lo hi rec grown => ?_
    obtain ⟨c2, oc, us, t, ec, hoc, hd, hv⟩ := rec
    cases ec
    have new : H c1 = none := I.hok.fresh lo
    have J := inv_table (t' := tk) (more := #[rawInt pos.line, rawInt pos.col, .ref c1]) (h' := hp) I tP (fun b o nb e => ext b o nb e) grown lo ⟨oc, us, t, hoc, hd, hv⟩
    have nP : P ≠ c1 := ne_of_none tP new
    have keep : ∀ b o, H b = some o → NT o → upd (upd H P (.tbl (ps ++ #[rawInt pos.line, rawInt pos.col, .ref c1]))) c1 (CodeO c1 (X.env.qual ++ "<lambda>")) b = some o := fun b o e n => by
      have n1 : b ≠ P := fun z => by rw [z, tP] at e; exact n ps (Option.some.inj e).symm
      rw [upd_ne (ne_of_none e new), upd_ne n1]
      exact e
    have lst : (ps ++ #[rawInt pos.line, rawInt pos.col, .ref c1]).toList = ps.toList ++ [rawInt pos.line, rawInt pos.col, .ref c1] := by simp
    have sm : Same H (upd (upd H P (.tbl (ps ++ #[rawInt pos.line, rawInt pos.col, .ref c1]))) c1 (CodeO c1 (X.env.qual ++ "<lambda>"))) := by
      refine ⟨keep, fun b e => upd_none (upd_none e), fun t p hp => ?_⟩
      by_cases hb : p.1 = P
      · rw [hu p hp hb, hb]
        refine ⟨_, by rw [upd_ne nP, upd_same], by rw [lst]; exact PySem.TriplesOk_snoc _ _ _ _ tr, fun p' cv hcv => ?_⟩
        rw [lst] at hcv
        rcases among_app _ tr hcv with z | z
        · obtain ⟨c0, e1, e2⟩ := all p' cv z
          exact ⟨c0, e1, keep _ _ e2 fun ps' y => codeO_ne ps' y⟩
        · exact ⟨c1, z, upd_same⟩
      · obtain ⟨qs, a1, a2, a3⟩ := t p hp
        refine ⟨qs, by rw [upd_ne (ne_of_none a1 new), upd_ne hb]; exact a1, a2, fun p' cv hcv => ?_⟩
        obtain ⟨c0, e1, e2⟩ := a3 p' cv hcv
        exact ⟨c0, e1, keep _ _ e2 fun ps' y => codeO_ne ps' y⟩
    have newF := J.hok.fresh (Nat.le_refl _)
    have J2 := inv_lam (t' := tk) (o := lamObj (X.env.qual ++ "<lambda>") params body scope (cloFrom X.env.cells scope.names []) ((X.mg "__name__").getD .none) c1 ctv) J (Heap.get?_push_size _ rfl)
    exact ⟨.ref hp.objs.size, _, J2, rfl, h _ c1 _ ctv _ (sm.trans (Same.new newF)) upd_same (by rw [upd_ne (ne_of_none upd_same newF)]; exact upd_same)⟩
end
/-- the objects of cells -/
def cellsOf (h : Heap) (cl : List (Str × Addr)) : List (Addr × Obj) := cl.filterMap fun p => (h.get? p.2).map fun o => (p.2, o)
theorem cellsOf_at {h : Heap} : ∀ {cl : List (Str × Addr)} {c : Addr} {o : Obj}, (cellsOf h cl).lookup c = some o → h.get? c = some o ∧ ∃ y, (y, c) ∈ cl
  | [], c, o, e => by simp [cellsOf] at e
  | (y, a) :: r, c, o, e => by
    unfold cellsOf at e
    rw [List.filterMap_cons] at e
    cases q : h.get? a with
    | none =>
      rw [q] at e
      obtain ⟨e1, z, e2⟩ := cellsOf_at (cl := r) (by simpa [cellsOf] using e)
      exact ⟨e1, z, List.mem_cons_of_mem _ e2⟩
    | some o' =>
      rw [q] at e
      simp only [Option.map_some, List.lookup] at e
      cases hb : c == a with
      | true =>
        rw [hb] at e
        cases e
        have : c = a := beq_iff_eq.mp hb
        subst this
        exact ⟨q, y, List.mem_cons_self⟩
      | false =>
        rw [hb] at e
        obtain ⟨e1, z, e2⟩ := cellsOf_at (cl := r) (by simpa [cellsOf] using e)
        exact ⟨e1, z, List.mem_cons_of_mem _ e2⟩
theorem cellsOf_has {h : Heap} : ∀ {cl : List (Str × Addr)} {y : Str} {c : Addr}, (y, c) ∈ cl → (h.get? c).isSome = true → ∃ o, (cellsOf h cl).lookup c = some o
  | (z, a) :: r, y, c, m, hs => by
    unfold cellsOf
    rw [List.filterMap_cons]
    have rest : c ≠ a → ∃ o, (cellsOf h r).lookup c = some o := fun n => by
      rcases List.mem_cons.mp m with e | e
      · cases e; exact absurd rfl n
      · exact cellsOf_has e hs
    cases q : h.get? a with
    | none =>
      have n : c ≠ a := fun e => by rw [e, q] at hs; cases hs
      simpa [cellsOf] using rest n
    | some o' =>
      simp only [Option.map_some, List.lookup]
      cases hb : c == a with
      | true => exact ⟨o', rfl⟩
      | false =>
        have n : c ≠ a := fun e => by rw [e] at hb; simp at hb
        simpa [cellsOf] using rest n
section
variable [Pw] {T : Tb} {c : Cn} {M : List Nat} {X : Cx} {pins : List (Addr × Obj)} {σ : L2.St} {H H0 : Hp} {s : Shared} {Oc : Addr → Prop} {Ts : List (D × V)} {ρ : Rho}
theorem capt_vals (env : EnvOk c.K H0 Oc M Ts σ H ρ) : ∀ {js : List Nat} {cs : List D}, capt ρ js = .ok cs → D.pures cs = true → ∃ vs : List V, js.map (slotAt σ) = vs.map some ∧ Rps c.K H (fun _ => False) cs vs
  | [], cs, e, _ => by simp only [capt] at e; cases e; exact ⟨[], rfl, Rps.nil⟩
  | j :: r, cs, e, p => by
    simp only [capt] at e
    cases hd : ρ.getD j none with
    | none => rw [hd] at e; cases e
    | some d =>
      rw [hd] at e
      dsimp only at e
      cases hl : capt ρ r with
      | no => rw [hl] at e; cases e
      | exc x => rw [hl] at e; cases e
      | ok l =>
        rw [hl] at e
        cases e
        simp only [D.pures, Bool.and_eq_true] at p
        obtain ⟨vs, h1, h2⟩ := capt_vals env hl p.2
        obtain ⟨v, hs, q1, q2⟩ := env.val j d (getD_some hd)
        have hM : M.contains j = false := by
          cases hM : M.contains j with
          | false => rfl
          | true =>
            have := (q2 hM).2
            have := p.1
            cases d <;> simp_all [D.mut, D.pure]
        exact ⟨v :: vs, by rw [List.map_cons, slotAt_of hs, h1]; rfl, Rps.cons (Rp.pureO d v p.1 (q1 hM)) h2⟩
theorem cells_fre {cid : Nat} {scope : Scope} {js : List Nat} {vs : List V} (I : Inv X pins σ H s)
    (hfree : ∀ y ∈ scope.names, y.2 = .free → X.env.scope.names.lookup y.1 = some .cell ∨ X.env.scope.names.lookup y.1 = some .free) (hfr : ∀ y ∈ (T.cli cid).2, (y, NameKind.free) ∈ scope.names) (hjs : js.map (fun j => X.N[j]?) = (T.cli cid).2.map some) (hfn : ∀ x, X.fn x = true)
    (hv : js.map (slotAt σ) = vs.map some) : ∃ cells, CellsAt (cloFrom X.env.cells scope.names []) (T.cli cid).2 (vs.map some) s.heap H ∧ Fre X.base X.stack s H cells ∧ ∀ y c, (cloFrom X.env.cells scope.names []).lookup y = some c → ∃ o, cells.lookup c = some o := by
  have cp : Caps X (cloFrom X.env.cells scope.names []) (T.cli cid).2 js := Caps.made I.ok hfree hfr hjs
  have CA := cells_of I cp
  rw [hv] at CA
  have hfc : ∀ y ∈ scope.names, y.2 = .free → ∃ c, X.env.cells.lookup y.1 = some c := fun y hy e => (hfree y hy e).elim (fun z => I.ok.has _ (.inl z)) fun z => I.ok.has _ (.inr z)
  have mem : ∀ y a, (y, a) ∈ cloFrom X.env.cells scope.names [] → X.env.cells.lookup y = some a := fun y a m => by
    rcases cloFrom_mem m with z | ⟨h1, h2⟩
    · cases z
    · obtain ⟨c1, hc1⟩ := hfc _ h1 rfl
      have hc1 : X.env.cells.lookup y = some c1 := hc1
      rw [hc1] at h2 ⊢
      rw [h2]; rfl
  have big : ∀ y a, X.env.cells.lookup y = some a → X.s_0.heap.objs.size ≤ a := fun y a e => I.ok.cab y a (hfn y) e
  refine ⟨cellsOf s.heap (cloFrom X.env.cells scope.names []), CA, ⟨?_, ?_, ?_, ?_, ?_⟩, ?_⟩
  · intro b o e
    exact (cellsOf_at e).1
  · intro b o e
    obtain ⟨_, y, m⟩ := cellsOf_at e
    exact I.freeC y b (mem y b m)
  · intro b o e
    obtain ⟨_, y, m⟩ := cellsOf_at e
    exact Heap.get?_none_of_le (Nat.le_trans I.ok.bsz (big y b (mem y b m)))
  · intro b o e hb
    obtain ⟨_, y, m⟩ := cellsOf_at e
    rcases List.mem_cons.mp (I.stkSub b hb) with z | z
    · exact I.cne y b (mem y b m) z
    · obtain ⟨_, ob, hob, _⟩ := I.ok.funs.mem z
      exact Nat.lt_irrefl _ (Nat.lt_of_lt_of_le (Heap.lt_size hob) (big y b (mem y b m)))
  · intro p hp
    obtain ⟨q, _, hq⟩ := List.mem_filterMap.mp hp
    cases ho : s.heap.get? q.2 with
    | none => rw [ho] at hq; cases hq
    | some o => rw [ho] at hq; cases hq; exact ho
  · intro y a e
    obtain ⟨o, ho, _⟩ := I.cell y a (cp.sub y a e) |>.choose_spec
    exact cellsOf_has (PySem.mem_of_lookup e) (by rw [ho]; rfl)
theorem run_pureR {m : R D} {k : D → Prop} {x y : Xc → Prop} (h : Run (pureR m) k x) : Run (pureR m) k y := by
  cases m with
  | ok d =>
    simp only [pureR] at h ⊢
    cases hp : d.pure with
    | true => rw [hp] at h; exact h
    | false => rw [hp] at h; exact h
  | exc e => exact h
  | no => exact h
theorem run_pureR' {m : R D} {k k' : D → Prop} {x y : Xc → Prop} (h : Run (pureR m) k x) (i : ∀ d, d.pure = true → k d → k' d) : Run (pureR m) k' y := by
  cases m with
  | ok d =>
    simp only [pureR] at h ⊢
    cases hp : d.pure with
    | true => rw [hp] at h; exact i d hp h
    | false => rw [hp] at h; exact h
  | exc e => exact h
  | no => exact h
theorem pe_cwcD {g cid k : Nat} {x : Str} {y : Expr} {ce : E} {js : List Nat} {fn : Fn} {params : Arguments} {body : Expr} {scope : Scope} {lpos p pos : Pos} (hK : X.K = c.K) (hT : TakP T X.prog X.w X.mg X.base c k g fn) (hn : 2 = fn.ps) (hx : x = toS fn.name) (hr : Room k X.A) (hg : Gl X x)
    (hdb : (x == ("__debug__" : Str)) = false) (hy : PE X y (tE c M ce)) (hb : bor M ce = false) (hs : NoStar X y)
    (pl : PE X (.Lambda params body scope lpos) (tLm (X.env.qual ++ "<lambda>") params body scope (cloFrom X.env.cells scope.names []))) (ht : chlOf T.zero cid X.env.scope (.Lambda params body scope lpos) = true)
    (hfree : ∀ y ∈ scope.names, y.2 = .free → X.env.scope.names.lookup y.1 = some .cell ∨ X.env.scope.names.lookup y.1 = some .free) (hfr : ∀ y ∈ (T.cli cid).2, (y, NameKind.free) ∈ scope.names) (hjs : js.map (fun j => X.N[j]?) = (T.cli cid).2.map some) (hfn : ∀ x, X.fn x = true) :
    PE X (.Call (.Name x p) [y, .Lambda params body scope lpos] [] pos) (tE c M (.cwc g [ce] cid js)) := by
  refine ⟨fun pins s σ H Q I z => ?_⟩
  obtain ⟨H0, Oc, Ts, ρ, env, r⟩ := z
  simp only [ev, evs] at r
  cases hev : ev c.F ce ρ with
  | no => rw [hev] at r; exact r.elim
  | exc e => rw [hev] at r; exact r.elim
  | ok d =>
    rw [hev] at r
    simp only [ok_bind] at r
    cases hca : capt ρ js with
    | no => rw [hca] at r; exact r.elim
    | exc e => rw [hca] at r; exact r.elim
    | ok cs =>
      rw [hca] at r
      simp only at r
      by_cases hpu : (D.pures [d] && D.pures cs) = true
      · rw [if_pos hpu] at r
        rw [Bool.and_eq_true] at hpu
        obtain ⟨pd, pc⟩ := hpu
        have pd1 : d.pure = true := by simpa [D.pures] using pd
        obtain ⟨ga, fd, ps, h1, h2, h3, h4, hrun⟩ := hT
        rw [← hx] at h1
        have ha : PA X [y, .Lambda params body scope lpos] (tCons (tE c M ce) (tCons (tLm (X.env.qual ++ "<lambda>") params body scope (cloFrom X.env.cells scope.names [])) tNil)) := pa_cons hy (pa_cons pl pa_nil) (hs _)
        refine wpAny_Call_Name_kw (ld_glob I hg h1 ?_ hdb)
        refine PySem.W.callWith_K (h₀ := X.base) I.ok.mod.kin (by rw [hK]; exact h2) (thn (ha.run pos pins s σ H (fun vs H2 => ∃ (v : V) (f c' : Addr) (pm ctv : Value), vs = [v, .ref f] ∧ Same H H2 ∧ Rp c.K H2 (Ow Oc M σ) d v ∧
          H2 f = some (.frz (lamObj (X.env.qual ++ "<lambda>") params body scope (cloFrom X.env.cells scope.names []) pm c' ctv) (.own f)) ∧ H2 c' = some (CodeO c' (X.env.qual ++ "<lambda>"))) I ?_) fun us s2 ⟨vs, H2, I2, rv, v, f, c', pm, ctv, ev, s12, rp, hf, hc⟩ => ⟨I2.kIn, ?_⟩) (hs _) (by rfl)
        · refine ⟨H0, Oc, Ts, ρ, env, ?_⟩
          rw [hev]
          intro v H1 s1 vk
          refine ⟨(env.same s1).amb.1, fun f c' pm ctv H2 s2 e1 e2 => ⟨v, f, c', pm, ctv, rfl, s1.trans s2, Rp.step (Stp.same s2) _ _ (vk.2.1 hb), e1, e2⟩⟩
        · subst ev
          obtain ⟨u1, us1, eu, ru1, rt⟩ : ∃ u1 us1, us = u1 :: us1 ∧ RelV v u1 ∧ Vals [.ref f] us1 := by
            cases rv with
            | cons r t => exact ⟨_, _, rfl, r, t⟩
          obtain ⟨u2, us2, eu2, ru2, rt2⟩ : ∃ u2 us2, us1 = u2 :: us2 ∧ RelV (.ref f) u2 ∧ Vals [] us2 := by
            cases rt with
            | cons r t => exact ⟨_, _, rfl, r, t⟩
          cases rt2
          obtain rfl : u2 = Value.ref f := ru2
          subst eu2 eu
          obtain ⟨vs', hv', hr'⟩ := capt_vals (env.same s12) hca pc
          obtain ⟨cells, CA, fre, hall⟩ := cells_fre (T := T) (cid := cid) I2 hfree hfr hjs hfn hv'
          have cf : ClF T c.K X.base X.stack s2 H2 cid f cs := .inl ⟨X.env.scope, params, body, scope, lpos, _, _, pm, c', ctv, cells, vs', ht, hf, hc, CA, hr', fre, hall⟩
          have e2 := I2.env0
          rw [hK] at e2
          have z := hrun X.A X.stack s2 H2 [u1] [v] [d] cid f cs Q hr e2 (.cons ru1 .nil) pd (Rps.cons (Rp.pureO d v pd1 rp) Rps.nil) (by simpa using hn) pc cf (env.same s12).amb.1
            (run_pureR' r fun d' hp k v H' s' rv => k v H' (s12.trans s') (Vok.pl rfl rfl (Rp.pureO d' v hp rv)))
          refine wpAny_call (codeAny_mono z fun rr s' hq => ?_)
          cases rr with
          | error e =>
            obtain ⟨_, _, _, _, _, _, _, _, _, _, _, _, zz⟩ := hq
            exact zz.elim
          | ok fl =>
            cases fl with
            | ret u => exact I2.after hq
            | next => exact False.elim hq
            | brk => exact False.elim hq
            | cont => exact False.elim hq
      · rw [if_neg hpu] at r; exact r.elim
end
theorem plain1_def {params : Arguments} {p : Str} (h : plain1 params = some p) (env : Env) : defaultsOf params env = ([], []) := by
  unfold plain1 at h
  split at h
  · simp only [defaultsOf]
    rfl
  · cases h
theorem chl_inv {T : Tb} {cid : Nat} {sc : Scope} {params : Arguments} {body : Expr} {scope : Scope} {lpos : Pos} (h : chlOf T.zero cid sc (.Lambda params body scope lpos) = true) :
    (∀ env, defaultsOf params env = ([], [])) ∧ (∀ y ∈ scope.names, y.2 = .free → sc.names.lookup y.1 = some .cell ∨ sc.names.lookup y.1 = some .free) ∧ ∀ y ∈ (T.cli cid).2, (y, NameKind.free) ∈ scope.names := by
  unfold chlOf at h
  dsimp only at h
  split at h
  · rename_i p fn hp hfn
    split at h
    · simp only [Bool.and_eq_true] at h
      obtain ⟨⟨⟨⟨⟨⟨h1, h2⟩, h3⟩, h4⟩, h5⟩, h6⟩, h7⟩ := h
      exact ⟨plain1_def hp, ndef_free h6, ndef_fr h6⟩
    · cases h
  · cases h
section
variable [Pw] {T : Tb} {c : Cn} {M : List Nat} {X : Cx}
theorem pe_calwD {i k : Nat} {x : Str} {e0 e1 : Expr} {a0 a1 : E} {p p3 : Pos} (hK : X.K = c.K) (hcl : (∀ ds, c.F 1999998 ds = .no) ∨ CloW X.prog X.w X.mg X.base c k) (hnx : ∀ ds x, c.F 1999998 ds ≠ .exc x) (hsh : ∀ ds d, c.F 1999998 ds = .ok d → (∃ d0 ks vs, ds = [d0, .dk ks vs] ∧ d0.pure = true ∧ D.pures vs = true) ∧ ∃ ks vs, d = .dk ks vs ∧ D.pures vs = true) (hr : Room k X.A)
    (hN : X.N[i]? = some x) (hv : Vis X.env.scope x) (hdb : (x == ("__debug__" : Str)) = false) (hcd : (x == ("__classdict__" : Str)) = false) (h0 : PE X e0 (tE c M a0)) (h1 : PE X e1 (tE c M a1)) (b0 : bor M a0 = false) (b1 : bor M a1 = false) (hf : fresh c.frf a1 = true) (s0 : NoStar X e0) (st1 : NoStar X e1) :
    PE X (.Call (.Name x p) [e0, e1] [] p3) (tE c M (.calw i [a0, a1])) := by
  refine ⟨fun pins s σ H Q I z => ?_⟩
  obtain ⟨H0, Oc, Ts, ρ, env, r⟩ := z
  simp only [ev] at r
  cases hg : ρ.getD i none with
  | none => rw [hg] at r; exact r.elim
  | some d =>
    rw [hg] at r
    cases d with
    | adr f y =>
      dsimp only at r
      by_cases h9 : f = 999999
      · rw [if_pos h9] at r
        subst h9
        cases hev : evs c.F [a0, a1] ρ with
        | no => rw [hev] at r; exact r.elim
        | exc x => rw [hev] at r; exact r.elim
        | ok ds =>
          rw [hev] at r
          dsimp only at r
          cases hF : c.F 1999998 ds with
          | no => rw [hF] at r; exact r.elim
          | exc x => exact absurd hF (hnx ds x)
          | ok dd =>
            obtain ⟨⟨d0, ks, vs, rfl, pd, pv⟩, ks', vs', rfl, pv'⟩ := hsh ds dd hF
            rcases hcl with hno | ⟨fnat, hrun⟩
            · rw [hno] at hF; cases hF
            · simp only [evs] at hev
              obtain ⟨w0, ev0, hev⟩ := bind_ok hev
              obtain ⟨l0, hev1, hev⟩ := bind_ok hev
              obtain ⟨w1, ev1, hev1⟩ := bind_ok hev1
              cases hev1
              cases hev
              obtain ⟨v, hs, hv1, hv2⟩ := env.val i _ (getD_some hg)
              have ev' : v = .ref (Pw.fa 999999) := by
                have hrb : Rb c.K H (Ow Oc M σ) (.adr 999999 y) v := by
                  cases hM : M.contains i with
                  | false => exact (hv1 hM).b
                  | true => exact absurd (hv2 hM).2 (by simp [D.mut])
                rw [rb_adr hrb]
                unfold adOf
                rw [if_neg (by omega)]
              rw [ev'] at hs
              have ha : PA X [e0, e1] (tCons (tE c M a0) (tCons (tE c M a1) tNil)) := pa_cons h0 (pa_cons h1 pa_nil (st1 _)) (s0 _)
              refine wpAny_Call_Name_kw (thn ((pe_var (pos := p) hN hv hdb hcd).run pins s σ H (fun v H1 => v = .ref (Pw.fa 999999) ∧ H1 = H) I ⟨_, hs, rfl, rfl⟩) fun u s1 ⟨v1, H1, I1, r1, q1⟩ => ?_)
              obtain ⟨rfl, rfl⟩ := q1
              cases r1
              refine PySem.W.callWith_F (first := []) (fnat _ _ I1.hok env.amb) (thn (ha.run p3 pins s1 σ _ (fun vs2 H2 => ∃ (v0 : V) (q : Addr), vs2 = [v0, .ref q] ∧ Same H1 H2 ∧ Rp c.K H2 (fun _ => False) d0 v0 ∧ H1 q = none ∧ Rb c.K H2 (fun _ => False) (.dk ks vs) (.ref q)) I1 ?_) fun us s2 ⟨vs2, H2, I2, rv, v0, q, ev2, q2, q3, q4, q5⟩ => ⟨fnat _ _ I2.hok (env.same q2).amb, ?_⟩) (s0 _) (by rw [st1 []]; rfl)
              · refine ⟨H0, Oc, Ts, ρ, env, ?_⟩
                rw [ev0]
                intro v0 Ha sa vka
                refine ⟨H0, Oc, Ts, ρ, env.same sa, ?_⟩
                rw [ev1]
                intro w Hb sb vkb
                obtain ⟨q, eq, hq, rq⟩ := vkb.2.2 hf rfl
                subst eq
                refine ⟨v0, q, rfl, sa.trans sb, Rp.step (Stp.same sb) _ _ (Rp.pureO d0 v0 pd (vka.2.1 b0)), sa.free hq, ?_⟩
                obtain ⟨b, kvs, e1, e2, e3, e4, e5, e6, e7⟩ := rq
                exact ⟨b, kvs, e1, e2, e3, e4, e5, e6, Rps.pureO _ _ pv e7⟩
              · show wpAny _ _ (call _ us) _ _ _
                subst ev2
                have e2 := I2.env0
                rw [hK] at e2
                have z := hrun X.A X.stack s2 H1 H2 us v0 q d0 ks vs Q hr e2 rv env.amb q2 q4 pd pv q3 q5 (by
                  rw [hF]
                  intro v H' s' nw
                  rw [hF] at r
                  obtain ⟨b, e1, e3, e4⟩ := nw
                  obtain ⟨b', kvs, f1, f2, f3, f4, f5, f6, f7⟩ := e4
                  have nb : ¬ Ow Oc M σ b := fun z => env.alloc b z e3
                  have eb : b' = b := by rw [e1] at f1; cases f1; rfl
                  refine r v H' s' ⟨(fun z => nomatch z), fun _ => ?_, fun _ _ => ⟨b, e1, e3, ⟨b', kvs, f1, f2, f3, f4, f5, f6, Rps.pureO _ _ pv' f7⟩⟩⟩
                  simp only [Rp]
                  exact ⟨b', kvs, f1, by rw [eb]; exact nb, f2, f3, f4, f5, f6, Rps.pureO _ _ pv' f7⟩)
                refine wpAny_call (codeAny_mono z fun rr s' hq => ?_)
                cases rr with
                | error e =>
                  obtain ⟨_, _, _, _, _, _, _, _, _, _, _, _, zz⟩ := hq
                  exact zz.elim
                | ok fl =>
                  cases fl with
                  | ret u => exact I2.after hq
                  | next => exact False.elim hq
                  | brk => exact False.elim hq
                  | cont => exact False.elim hq
      · rw [if_neg h9] at r; exact r.elim
    | _ => exact r.elim
theorem EnvOk.setN {K : PySem.W.Frag} {H0 H : Hp} {Oc : Addr → Prop} {M : List Nat} {Ts : List (D × V)} {σ : L2.St} {ρ : Rho} {i : Nat} {v : V} (env : EnvOk K H0 Oc M Ts σ H ρ) (hM : M.contains i = false) (hi : ρ.getD i none = none) : EnvOk K H0 Oc M Ts (σ.set i (some v)) H ρ := by
  have ho := ow_set (Oc := Oc) (σ := σ) (x := some v) hM
  have ne : ∀ {j : Nat}, M.contains j = true → i ≠ j := fun {j} h z => by rw [← z, hM] at h; cases h
  refine ⟨by rw [List.length_set, env.len], env.base, env.oc, fun j e hj => ?_, fun j a hj e => ?_, fun j l a hj hl e1 e2 => ?_, fun p hp => by rw [ho]; exact env.tmp p hp, env.tabs⟩
  · have hij : i ≠ j := fun z => by
      rw [List.getD_eq_getElem?_getD, z, hj] at hi
      cases hi
    rw [ho]
    obtain ⟨w, e1, e2⟩ := env.val j e hj
    exact ⟨w, by rw [List.getElem?_set_ne hij]; exact e1, e2⟩
  · rw [List.getElem?_set_ne (ne hj)] at e
    exact env.own j a hj e
  · rw [List.getElem?_set_ne (ne hj)] at e1
    rw [List.getElem?_set_ne (ne hl)] at e2
    exact env.dist j l a hj hl e1 e2
/-- a def handed over that holds an inner one, made just before -/
def tC2 (c : Cn) (M : List Nat) (g cid i : Nat) (ce : E) (js : List Nat) (mk : Addr → NF) : TE := fun σ H Q => ∃ H0 Oc Ts ρ f c' d cs, EnvOk c.K H0 Oc M Ts σ H ρ ∧ σ[i]? = some (some (.ref f)) ∧ H f = some (FnO f (mk c')) ∧ H c' = some (CodeO c' (mk c').qual) ∧
  ev c.F ce ρ = .ok d ∧ capt ρ js = .ok cs ∧ d.pure = true ∧ D.pures cs = true ∧ Run (pureR (c.F (2000000 + g) [d, .dt [] (.int cid :: cs)])) (fun d => ∀ v H', Same H H' → Rp c.K H' (fun _ => False) d v → Q v H') (fun _ => False)
theorem fnO_NT {f : Addr} {F : NF} : NT (FnO f F) := fun ps z => fnO_ne ps z
theorem codeO_NT {f : Addr} {q : Str} : NT (CodeO f q) := fun ps z => codeO_ne ps z
theorem pe_hand {g cid k i : Nat} {x name : Str} {y : Expr} {ce : E} {js : List Nat} {fn : Fn} {params : Arguments} {body : List Stmt} {scope : Scope} {fpos p p2 pos : Pos} (hK : X.K = c.K) (hT : TakP T X.prog X.w X.mg X.base c k g fn) (hn : 2 = fn.ps) (hx : x = toS fn.name) (hr : Room k X.A) (hg : Gl X x)
    (hdb : (x == ("__debug__" : Str)) = false) (hy : PE X y (tE c M ce)) (hb : bor M ce = false) (hs : NoStar X y) (hN : X.N[i]? = some name) (hv : Vis X.env.scope name) (nd : (name == ("__debug__" : Str)) = false) (ncd : (name == ("__classdict__" : Str)) = false)
    (ht : T.chd cid X.env.scope (.FunctionDef name params body [] none [] scope none name fpos) = true) (hfree : ∀ y ∈ scope.names, y.2 = .free → X.env.scope.names.lookup y.1 = some .cell ∨ X.env.scope.names.lookup y.1 = some .free) (hfr : ∀ y ∈ (T.cli cid).2, (y, NameKind.free) ∈ scope.names)
    (hjs : js.map (fun j => X.N[j]?) = (T.cli cid).2.map some) (hfn : ∀ x, X.fn x = true) :
    PE X (.Call (.Name x p) [y, .Name name p2] [] pos) (tC2 c M g cid i ce js fun c' => ⟨name, X.env.qual ++ name, params, body, scope, cloFrom X.env.cells scope.names [], c'⟩) := by
  refine ⟨fun pins s σ H Q I z => ?_⟩
  obtain ⟨H0, Oc, Ts, ρ, f, c', d, cs, env, hsf, hff, hcc, hev, hca, pd, pc, r⟩ := z
  obtain ⟨ga, fd, ps, h1, h2, h3, h4, hrun⟩ := hT
  rw [← hx] at h1
  have ha : PA X [y, .Name name p2] (tCons (tE c M ce) (tCons (tVar i) tNil)) := pa_cons hy (pa_cons (pe_var hN hv nd ncd) pa_nil) (hs _)
  refine wpAny_Call_Name_kw (ld_glob I hg h1 ?_ hdb)
  refine PySem.W.callWith_K (h₀ := X.base) I.ok.mod.kin (by rw [hK]; exact h2) (thn (ha.run pos pins s σ H (fun vs H2 => ∃ v : V, vs = [v, .ref f] ∧ Same H H2 ∧ Rp c.K H2 (Ow Oc M σ) d v) I ?_) fun us s2 ⟨vs, H2, I2, rv, v, ev, s12, rp⟩ => ⟨I2.kIn, ?_⟩) (hs _) (by rfl)
  · refine ⟨H0, Oc, Ts, ρ, env, ?_⟩
    rw [hev]
    intro v H1 s1 vk
    exact ⟨_, hsf, v, rfl, s1, vk.2.1 hb⟩
  · subst ev
    obtain ⟨u1, us1, eu, ru1, rt⟩ : ∃ u1 us1, us = u1 :: us1 ∧ RelV v u1 ∧ Vals [.ref f] us1 := by
      cases rv with
      | cons r t => exact ⟨_, _, rfl, r, t⟩
    obtain ⟨u2, us2, eu2, ru2, rt2⟩ : ∃ u2 us2, us1 = u2 :: us2 ∧ RelV (.ref f) u2 ∧ Vals [] us2 := by
      cases rt with
      | cons r t => exact ⟨_, _, rfl, r, t⟩
    cases rt2
    obtain rfl : u2 = Value.ref f := ru2
    subst eu2 eu
    obtain ⟨vs', hv', hr'⟩ := capt_vals (env.same s12) hca pc
    obtain ⟨cells, CA, fre, hall⟩ := cells_fre (T := T) (cid := cid) I2 hfree hfr hjs hfn hv'
    have cf : ClF T c.K X.base X.stack s2 H2 cid f cs := .inr ⟨X.env.scope, name, params, body, scope, fpos, _, _, c', cells, vs', ht, s12.all _ _ hff fnO_NT, s12.all _ _ hcc codeO_NT, CA, hr', fre, hall⟩
    have e2 := I2.env0
    rw [hK] at e2
    have z := hrun X.A X.stack s2 H2 [u1] [v] [d] cid f cs Q hr e2 (.cons ru1 .nil) (by simp [D.pures, pd]) (Rps.cons (Rp.pureO d v pd rp) Rps.nil) (by simpa using hn) pc cf (env.same s12).amb.1
      (run_pureR' r fun d' hp k v H' s' rv => k v H' (s12.trans s') rv)
    refine wpAny_call (codeAny_mono z fun rr s' hq => ?_)
    cases rr with
    | error e =>
      obtain ⟨_, _, _, _, _, _, _, _, _, _, _, _, zz⟩ := hq
      exact zz.elim
    | ok fl =>
      cases fl with
      | ret u => exact I2.after hq
      | next => exact False.elim hq
      | brk => exact False.elim hq
      | cont => exact False.elim hq
def tbN (tb : List (Addr × Str)) : List NTab := tb.map fun p => (p.1, fun _ _ => p.2)
omit [Pw] in
theorem tabsN_of {tb : List (Addr × Str)} {H : Hp} (h : Tabs tb H) : TabsN (tbN tb) H := fun p hp => by
  obtain ⟨q, hq, rfl⟩ := List.mem_map.mp hp
  exact h q hq
omit [Pw] in
theorem tabs_of {tb : List (Addr × Str)} {H : Hp} (h : TabsN (tbN tb) H) : Tabs tb H := fun p hp => h (p.1, fun _ _ => p.2) (List.mem_map.mpr ⟨p, hp, rfl⟩)
theorem pss_retC {W : Nat} {fr : Bool} {g cid k i : Nat} {x name : Str} {y : Expr} {ce : E} {js : List Nat} {fn : Fn} {params : Arguments} {body : List Stmt} {scope : Scope} {fpos p p2 pos rpos : Pos} {cc P : Addr} (hK : X.K = c.K) (hT : TakP T X.prog X.w X.mg X.base c k g fn) (hn : 2 = fn.ps) (hx : x = toS fn.name) (hr : Room k X.A) (hg : Gl X x)
    (hdb : (x == ("__debug__" : Str)) = false) (hy : PE X y (tE c M ce)) (hb : bor M ce = false) (hs : NoStar X y) (hN : X.N[i]? = some name) (hnd : X.N.Nodup) (hv : Vis X.env.scope name) (hl : Loc X.env.scope name) (nd : (name == ("__debug__" : Str)) = false) (ncd : (name == ("__classdict__" : Str)) = false) (hM : M.contains i = false)
    (ht : T.chd cid X.env.scope (.FunctionDef name params body [] none [] scope none name fpos) = true) (hfree : ∀ y ∈ scope.names, y.2 = .free → X.env.scope.names.lookup y.1 = some .cell ∨ X.env.scope.names.lookup y.1 = some .free) (hfr : ∀ y ∈ (T.cli cid).2, (y, NameKind.free) ∈ scope.names)
    (hjs : js.map (fun j => X.N[j]?) = (T.cli cid).2.map some) (hfn : ∀ x, X.fn x = true) (tb : TabB X.base X.mg cc P) (hcode : X.env.code = .ref cc) (hm : (P, X.env.qual ++ name) ∈ Pw.tb) (hu : ∀ p ∈ Pw.tb, p.1 = P → p.2 = X.env.qual ++ name)
    (hd0 : params.defaults = []) (hk0 : params.kw_defaults = []) (han : annTrees params none X.env = []) :
    PSs X [.FunctionDef name params body [] none [] scope none name fpos, .Return (some (.Call (.Name x p) [y, .Name name p2] [] pos)) rpos] (tSsD c W M fr [.retC g ce cid js i]) := by
  have p1 := ps_ndefM (X := X) (T := tbN Pw.tb) (nm := fun _ _ => X.env.qual ++ name) (params := params) (body := body) (scope := scope) (pos := fpos) (i := i) tb hcode (List.mem_map.mpr ⟨_, hm, rfl⟩) rfl (fun p hp e => by
    obtain ⟨q, hq, rfl⟩ := List.mem_map.mp hp
    rw [hu q hq e]) hfree hd0 hk0 han hnd hN hl (.inl (hfn name))
  have p2' := pe_hand (T := T) (fpos := fpos) (p := p) (p2 := p2) (pos := pos) (cid := cid) hK hT hn hx hr hg hdb hy hb hs hN hv nd ncd ht hfree hfr hjs hfn
  refine ⟨fun pins s σ H N I ⟨H0, Oc, Ts, ρ, ho, env, r⟩ => (pss_cons p1 (pss_one (ps_ret (pos := rpos) p2'))).run pins s σ H N I ?_⟩
  simp only [exs, ex] at r
  cases hi : ρ.getD i none with
  | some _ => rw [hi] at r; exact r.elim
  | none =>
    rw [hi] at r
    simp only [Option.isSome_none, Bool.false_eq_true, if_false] at r
    cases hev : ev c.F ce ρ with
    | no => rw [hev] at r; exact r.elim
    | exc e => rw [hev] at r; exact r.elim
    | ok d =>
      rw [hev] at r
      cases hca : capt ρ js with
      | no => rw [hca] at r; exact r.elim
      | exc e => rw [hca] at r; exact r.elim
      | ok cs =>
        rw [hca] at r
        dsimp only at r
        by_cases hpu : (d.pure && D.pures cs) = true
        · rw [if_pos hpu] at r
          rw [Bool.and_eq_true] at hpu
          cases hF : pureR (c.F (2000000 + g) [d, .dt [] (.int cid :: cs)]) with
          | no => rw [hF] at r; exact r.elim
          | exc e => rw [hF] at r; exact r.elim
          | ok rr =>
            rw [hF] at r
            have hrp : rr.pure = true := by
              cases hm : c.F (2000000 + g) [d, .dt [] (.int cid :: cs)] with
              | ok d' =>
                rw [hm] at hF
                simp only [pureR] at hF
                cases hp : d'.pure with
                | true => rw [hp] at hF; cases hF; exact hp
                | false => rw [hp] at hF; cases hF
              | exc e => rw [hm] at hF; cases hF
              | no => rw [hm] at hF; cases hF
            refine ⟨tabsN_of env.amb.1, fun f c' H1 ext nn tabs f0 f1 c1 => ?_⟩
            have sm : Same H H1 := ⟨fun b o e n => ext b o e n, nn, fun _ => tabs_of tabs⟩
            have hlt : i < σ.length := by
              rw [I.len]
              exact (List.getElem?_eq_some_iff.mp hN).1
            refine ⟨H0, Oc, Ts, ρ, f, c', d, cs, (env.same sm).setN hM hi, List.getElem?_set_self hlt, f1, c1, hev, hca, hpu.1, hpu.2, ?_⟩
            rw [hF]
            intro v H' s' rv
            exact r v H' (env.base.trans (sm.trans s')) (Rp.pureO rr v hrp rv) fun _ hm => by cases rr <;> simp_all [D.pure, D.mut]
        · rw [if_neg hpu] at r; exact r.elim
end
end MT
end
section
set_option Elab.async false
set_option linter.all false
set_option maxRecDepth 100000
set_option maxHeartbeats 8000000
/-! MtP: what the text does is what the small language does: expressions. -/
namespace MT
open PySem PySem.Spec L2
variable [Pw]
structure CxOk (T : Tb) (c : Cn) (k : Nat) (Γ : Sta) (X : Cx) : Prop where
  hK : X.K = c.K
  hP : X.prog = Pw.P
  hw : X.w = Pw.w
  hmg : X.mg = Pw.mg
  hN : X.N = Γ.N
  nd : Γ.N.Nodup
  sc : X.env.scope = Γ.sc
  calm : X.calm = true
  room : Room k X.A
  pass : Passes (L2.CX X.prog X.w) X c.wish
  fn : ∀ x, Γ.stor x = true → X.fn x = true
  bl : ∀ x, T.bl.contains x = true → X.mg x = none
  gl : ∀ p ∈ T.gl, ∃ v u, X.mg p.1 = some u ∧ RelV v u ∧ ∀ H O, Rp c.K H O p.2 v
  fns : ∀ f fn, T.fn f = some fn → FnAt X.prog X.w X.mg X.base c k fn.ps f (toS fn.name)
  frf : c.frf = frT T
  fad : ∀ f fn, T.fn f = some fn → X.mg (toS fn.name) = some (.ref (Pw.fa f))
  dom : ∀ f ds, f < 1000000 → f ≠ 999999 → (∀ fn, T.fn f = some fn → ds.length ≠ fn.ps) → c.F f ds = .no
  no9 : T.fn 999999 = none
  cl : (∀ ds, c.F 999999 ds = .no) ∨ CloP X.prog X.w X.mg X.base c k
  cw : (∀ ds, c.F 1999998 ds = .no) ∨ (CloW X.prog X.w X.mg X.base c k ∧ (∀ ds x, c.F 1999998 ds ≠ .exc x) ∧ ∀ ds d, c.F 1999998 ds = .ok d → (∃ d0 ks vs, ds = [d0, .dk ks vs] ∧ d0.pure = true ∧ D.pures vs = true) ∧ ∃ ks vs, d = .dk ks vs ∧ D.pures vs = true)
  tak : ((∃ c sc x, T.chl c sc x = true) ∨ ∃ c sc x, T.chd c sc x = true) → ∀ g fn, T.fn g = some fn → TakP T X.prog X.w X.mg X.base c k g fn
  chd : ∀ cid sc name params body scope pos, T.chd cid sc (.FunctionDef name params body [] none [] scope none name pos) = true → params.defaults = [] ∧ params.kw_defaults = [] ∧ (∀ env, annTrees params none env = []) ∧ (∀ y ∈ scope.names, y.2 = .free → sc.names.lookup y.1 = some .cell ∨ sc.names.lookup y.1 = some .free) ∧ ∀ y ∈ (T.cli cid).2, (y, NameKind.free) ∈ scope.names
  chl : ∀ cid sc x, T.chl cid sc x = true → chlOf T.zero cid sc x = true
  mkr : ∀ nm, Γ.mkr = some nm → (∃ cc P, LamX.TabB X.base X.mg cc P ∧ X.env.code = .ref cc ∧ (P, X.env.qual ++ toS nm) ∈ Pw.tb ∧ ∀ p ∈ Pw.tb, p.1 = P → p.2 = X.env.qual ++ toS nm) ∧ ∀ x, X.fn x = true
  xr : c.xr = xrP T.xr
  xok : ∀ b ∈ T.xr, XcOk c.K T.xn b
  xnm : ∀ b ∈ T.xn, b ≠ 6 → X.mg (toS (xNm b)) = some (.ref (xC b))
  x0 : T.xr ≠ [] → X.mg (toS (xNm 0)) = some (.ref (xC 0))
theorem star_of {X : Cx} {x : Expr} (h : noStar x = true) : NoStar X x := by
  intro r
  cases x <;> first | rfl | cases h
theorem star_all {X : Cx} {P : Expr → E → Prop} : ∀ {xs : List Expr} {es : List E}, xs.all noStar = true → Paired P xs es → Paired (fun x ce => P x ce ∧ NoStar X x) xs es
  | _, _, _, .nil => .nil
  | _, _, h, .cons r t => by
    rw [List.all_cons, Bool.and_eq_true] at h
    exact .cons ⟨r, star_of h.1⟩ (star_all h.2 t)
theorem plain_of {x : Expr} (h : noSl x = true) : PlainIx x := by
  intro o i
  cases x <;> first | rfl | cases h
theorem sup_of {X : Cx} {x : Expr} {f : Str} (h : noSup x = true) : attributeBase x f X.env (eval x X.env) = eval x X.env := by
  cases x with
  | Call fn as ks p =>
    cases fn with
    | Name n q =>
      cases as with
      | nil => cases ks with
        | nil => cases h
        | cons a b => rfl
      | cons a b => rfl
    | _ => rfl
  | _ => rfl
theorem set_of {X : Cx} {x : Expr} (h : noSet x = true) : ∀ v, foldedSetIterable x X.env v = pure v := by
  intro v
  cases x <;> first | rfl | cases h
theorem vis_of {sc : Scope} {x : Str} (h : visB sc x = true) : Vis sc x := by
  unfold visB at h
  split at h
  · exact .inl (by assumption)
  · exact .inr (.inl (by assumption))
  · exact .inr (.inr (by assumption))
  · cases h
theorem loc_of {sc : Scope} {x : Str} (h : locB sc x = true) : Loc sc x := by
  unfold locB at h
  split at h
  · exact .inl (by assumption)
  · exact .inr (by assumption)
  · cases h
theorem lcl_of {sc : Scope} {x : Str} (h : lB sc x = true) : sc.names.lookup x = some .local := by
  unfold lB at h
  split at h
  · assumption
  · cases h
theorem gl_of {sc : Scope} {x : Str} (h : glB sc x = true) : sc.names.lookup x = some .globalImplicit := by
  unfold glB at h
  split at h
  · assumption
  · cases h
section
variable {T : Tb} {c : Cn} {k : Nat} {Γ : Sta} {X : Cx} {pos : Pos}
theorem CxOk.hu (h : CxOk T c k Γ X) : X.A.units + 1 < cLine := hu_of h.room
theorem CxOk.u65 (h : CxOk T c k Γ X) : X.A.units + 65 < cLine := by have := h.room.un; omega
theorem CxOk.u64 (h : CxOk T c k Γ X) : X.A.units + 64 < cLine := h.room.units
theorem CxOk.name (h : CxOk T c k Γ X) {i : Nat} {x : Str} (e : chkN Γ i x = true) : X.N[i]? = some x ∧ Vis X.env.scope x ∧ (x == ("__debug__" : Str)) = false ∧ (x == ("__classdict__" : Str)) = false := by
  unfold chkN okN at e
  simp only [Bool.and_eq_true, decide_eq_true_eq, Bool.not_eq_true'] at e
  exact ⟨by rw [h.hN]; exact e.1.1, by rw [h.sc]; exact vis_of e.1.2, e.2.1, e.2.2⟩
theorem CxOk.slot (h : CxOk T c k Γ X) {i : Nat} {x : Str} (e : chkS Γ i x = true) : X.N[i]? = some x ∧ Loc X.env.scope x ∧ (X.fn x = true ∨ X.env.scope.names.lookup x = some .local) := by
  unfold chkS at e
  simp only [Bool.and_eq_true, decide_eq_true_eq, Bool.or_eq_true] at e
  exact ⟨by rw [h.hN]; exact e.1.1, by rw [h.sc]; exact loc_of e.1.2, e.2.imp (h.fn x) (fun z => by rw [h.sc]; exact lcl_of z)⟩
theorem CxOk.glo (h : CxOk T c k Γ X) {x : Str} (e : glB Γ.sc x = true) : Gl X x := by
  show X.env.scope.names.lookup x = some .globalImplicit
  rw [h.sc]; exact gl_of e
theorem CxOk.blt (h : CxOk T c k Γ X) {x y : Str} (e : chkB T Γ x y = true) : x = y ∧ Gl X x ∧ X.mg x = none := by
  unfold chkB at e
  simp only [Bool.and_eq_true, decide_eq_true_eq] at e
  exact ⟨e.1.1, h.glo e.1.2, h.bl x e.2⟩
theorem CxOk.tyc (h : CxOk T c k Γ X) {y z : Expr} {ca : E} {t : Ty} {p pos : Pos} (hg : Gl X "isinstance") (hm : X.mg "isinstance" = none) (ha : PE X y (tE c Γ.M ca)) (hs : NoStar X y) (e : chkTy T Γ t z = true) :
    PE X (.Call (.Name "isinstance" p) [y, z] [] pos) (tE c Γ.M (.isi ca t)) := by
  unfold chkTy at e
  split at e
  · rename_i n q
    cases ht : tyOne t with
    | none => rw [ht] at e; cases e
    | some m =>
      rw [ht] at e
      obtain ⟨h1, h2, h3⟩ := h.blt e
      subst h1
      exact pe_isiD ht h.hK hg hm h2 h3 ha hs
  · rename_i n q n' q' kk pp
    simp only [Bool.and_eq_true, decide_eq_true_eq] at e
    obtain ⟨⟨rfl, e1⟩, e2⟩ := e
    obtain ⟨h1, h2, h3⟩ := h.blt e1
    obtain ⟨g1, g2, g3⟩ := h.blt e2
    subst h1 g1
    exact pe_isiTD h.hK hg hm h2 h3 g2 g3 ha hs
  · cases e
theorem CxOk.tgs (h : CxOk T c k Γ X) : ∀ {is : List Nat} {es : List Expr}, tgOk Γ is es = true → Paired (TgAt X Γ.M) es is
  | [], [], _ => .nil
  | [], _ :: _, e => by simp [tgOk] at e
  | _ :: _, [], e => by simp [tgOk] at e
  | i :: r, x :: q, e => by
    cases x with
    | Name n p =>
      simp only [tgOk, Bool.and_eq_true, Bool.not_eq_true'] at e
      obtain ⟨h1, h2, h3⟩ := h.slot e.1.1
      exact .cons ⟨⟨n, p, rfl, h1, h2, h3⟩, e.1.2⟩ (h.tgs e.2)
    | _ => simp [tgOk] at e
theorem CxOk.tgt (h : CxOk T c k Γ X) {tg : Tg} {x : Expr} (e : chkT Γ tg x = true) : PG X x (gT c Γ.M tg) := by
  have nd : X.N.Nodup := by rw [h.hN]; exact h.nd
  cases tg with
  | one i =>
    cases x with
    | Name n p =>
      simp only [chkT, Bool.and_eq_true, Bool.not_eq_true'] at e
      obtain ⟨h1, h2, h3⟩ := h.slot e.1
      exact pg_oneD nd h1 h2 h3 e.2
    | _ => simp [chkT] at e
  | tup is =>
    cases x with
    | Tuple es j p => exact pg_tupD h.hK h.calm nd (h.tgs e)
    | _ => simp [chkT] at e
theorem opR_of (h : CxOk T c k Γ X) (op : Op2) : OpR X (binaryOp (opA op)) (rD2 c.K (op2D op)) := by
  rw [← h.hK]
  cases op
  · exact op_addD
  · exact op_subD
  · exact op_mulD
  · exact op_modD
  · exact op_fdivD
  · exact op_powD
theorem cmR_of (h : CxOk T c k Γ X) (op : Cm) : OpR X (compareOp (cmA op)) (rB2 c.K (cmD op)) := by
  rw [← h.hK]
  cases op
  · exact op_eqDD h.u64
  · exact op_neDD h.u64
  · exact op_ltD
  · exact op_leD
  · exact op_gtD
  · exact op_geD (Nat.lt_of_succ_lt h.hu)
  · exact op_inDD h.hu h.u65
  · exact op_ninDD h.hu h.u65
  · exact op_isD
  · exact op_isnD
theorem clR_of (h : CxOk T c k Γ X) (b : Bl) (hb : bltOk b = true) : CallR X (cBl b) (rDs c.K (bltD b)) := by
  rw [← h.hK]
  cases b <;> first | cases hb | skip
  · exact cl_len
  · exact cl_all h.calm
  · exact cl_any h.calm
  · exact cl_sorted h.hP h.hw h.calm
  · exact cl_tuple
  · exact cl_list h.calm
  · exact cl_dict h.calm
  · exact cl_int
  · exact cl_str
  · exact cl_abs
theorem CxOk.u1c (h : CxOk T c k Γ X) {u : U1} {x : Expr} {ca : E} (e : u1Ok T u Γ x = true) (ha : noStar (u1A x) = true → PE X (u1A x) (tE c Γ.M ca)) : PE X x (tE c Γ.M (.u1 u ca)) := by
  unfold u1Ok at e
  split at e
  · simp only [Bool.and_eq_true] at e
    obtain ⟨⟨⟨⟨e9, e8⟩, e0⟩, e1⟩, e2⟩ := e
    obtain ⟨h1, h2, h3⟩ := h.blt e0
    obtain ⟨g1, g2, g3⟩ := h.blt e1
    subst h1 g1
    cases u with
    | sset => exact pe_ssetD h.hK h.calm h.u64 h2 h3 g2 g3 (ha e2) (star_of e2)
    | lset => exact pe_lsetD h.hK h.calm h.u64 h2 h3 g2 g3 (ha e2) (star_of e2)
    | rev => simp at e9
    | upper => simp at e8
  · simp only [Bool.and_eq_true, decide_eq_true_eq] at e
    obtain ⟨⟨⟨⟨rfl, rfl⟩, e2⟩, e3⟩, e4⟩ := e
    exact pe_upperD (ha e4) (sup_of e3) e2
  · simp only [Bool.and_eq_true, decide_eq_true_eq] at e
    obtain ⟨⟨e0, e1⟩, e2⟩ := e
    subst e0
    exact pe_revD h.hK (ha e2) (pe_negD (pe_cstD e1) h.hK)
  · cases e
theorem CxOk.u2c (h : CxOk T c k Γ X) {u : U2} {x : Expr} {ca cb : E} (e : u2Ok T u Γ x = true) (ha : PE X (u2A x) (tE c Γ.M ca)) (hb : PE X (u2B x) (tE c Γ.M cb)) : PE X x (tE c Γ.M (.u2 u ca cb)) := by
  unfold u2Ok at e
  split at e
  · simp only [Bool.and_eq_true] at e
    obtain ⟨⟨e0, e1⟩, e2⟩ := e
    obtain ⟨h1, h2, h3⟩ := h.blt e0
    subst h1
    exact pe_minD h.calm h2 h3 ha hb (star_of e1) (star_of e2)
  · simp only [Bool.and_eq_true, decide_eq_true_eq] at e
    obtain ⟨⟨⟨rfl, e1⟩, e2⟩, e3⟩ := e
    exact pe_tixD h.hK ha hb (star_of e3) (sup_of e2) e1
  · cases e
theorem CxOk.blk (h : CxOk T c k Γ X) {scope : Scope} (s : Shared) (H : Hp) (C : Addr) (cl : List (Str × Addr)) (fp : List Addr) : CxOk T c.q k (blkSta Γ scope) (X.blk s H scope (compEnvC scope cl C X.env) fp) where
  hK := h.hK
  hP := h.hP
  hw := h.hw
  hmg := h.hmg
  hN := h.hN
  nd := h.nd
  sc := by
    show relabel scope X.env = relS scope Γ.sc
    rw [← h.sc]; rfl
  calm := h.calm
  room := h.room
  pass := passL
  fn := fun x e => by
    have e' : scope.names.lookup x = some .cell := of_decide_eq_true e
    show (scope.names.lookup x == some .cell) = true
    rw [e']; rfl
  bl := h.bl
  gl := h.gl
  fns := fun f fn e => ⟨(h.fns f fn e).at_, (h.fns f fn e).db⟩
  frf := h.frf
  fad := h.fad
  dom := h.dom
  no9 := h.no9
  cl := h.cl
  cw := h.cw
  tak := h.tak
  chl := h.chl
  chd := h.chd
  mkr := fun _ z => nomatch z
  xr := h.xr
  xok := h.xok
  xnm := h.xnm
  x0 := h.x0
end
theorem okTI_of {T : Tb} {it : Ir} {Γ Γ' : Sta} {x te : Expr} {tg : Tg} (h1 : chkI T it Γ x (isTupE te) = true) (h2 : chkT Γ' tg te = true) : okTI tg it = true := by
  cases tg with
  | tup is => rfl
  | one i =>
    have hn : isTupE te = false := by cases te <;> first | rfl | (simp [chkT] at h2)
    rw [hn] at h1
    cases it with
    | enm e =>
      rw [chkI.eq_def] at h1
      split at h1 <;> simp_all
    | zip a b =>
      rw [chkI.eq_def] at h1
      split at h1 <;> simp_all
    | _ => rfl
theorem star_rest {X : Cx} {p : Pos} {P : Expr → E → Prop} {Q : E → Prop} {xs : List Expr} {es : List E} (t : Paired (fun x ce => P x ce ∧ Q ce ∧ NoStar X x) xs es) : (backTo p (starEach xs X.env)).any (·.1) = false := by
  induction t with
  | nil => rfl
  | cons q' t ih =>
    rw [q'.2.2]
    exact ih
/-! ### the theorem -/
theorem and1 {a b : Bool} (h : (a && b) = true) : a = true ∧ b = true := by rw [Bool.and_eq_true] at h; exact h
theorem not1 {a : Bool} (h : (!a) = true) : a = false := by cases a <;> first | rfl | cases h
section
variable {T : Tb} {k : Nat}
theorem tst_lc {F : Nat → List D → R D} {own : List Nat} {tg : Tg} {it : Ir} {ifs : List E} {e : E} {ρ : Rho} : tst F (.lc own tg it ifs e) ρ = (do let x ← ev F (.lc own tg it ifs e) ρ; truth x) := by
  simp only [tst, ev, bind_assoc']
  congr 1
mutual
theorem sndE : ∀ (e : E) (c : Cn) (Γ : Sta) (X : Cx) (x : Expr), CxOk T c k Γ X → chkE T e Γ x = true → PE X x (tE c Γ.M e)
  | .var i, c, Γ, X, x, h, e => by
    cases x with
    | Name n p =>
      obtain ⟨h1, h2, h3, h4⟩ := h.name (by simpa only [chkE] using e)
      exact pe_varD h1 h2 h3 h4
    | _ => simp [chkE] at e
  | .cst d, c, Γ, X, x, h, e => by
    cases x with
    | Constant q j p => exact pe_cstD (by simpa only [chkE] using e)
    | _ => simp [chkE] at e
  | .glb g d, c, Γ, X, x, h, e => by
    cases x with
    | Name n p =>
      simp only [chkE, Bool.and_eq_true, decide_eq_true_eq, List.any_eq_true] at e
      obtain ⟨⟨⟨e1, e2⟩, e3⟩, q, hq, e4, e5⟩ := e
      obtain ⟨v, u, m1, m2, m3⟩ := h.gl q hq
      have hdb : (n == ("__debug__" : Str)) = false := by
        unfold okN at e3
        simp only [Bool.and_eq_true, Bool.not_eq_true'] at e3
        exact e3.1
      rw [e4] at m1
      refine (pe_glob (h.glo e2) m1 m2 hdb).imp fun σ H Q ⟨H0, Oc, Ts, ρ, env, r⟩ => ?_
      simp only [ev] at r
      rw [e5] at m3
      exact r v H (Same.refl H) (Vok.pl rfl rfl (m3 H _))
    | _ => simp [chkE] at e
  | .tup es, c, Γ, X, x, h, e => by
    cases x with
    | Tuple xs j p =>
      obtain ⟨e1, e2⟩ := and1 (by simpa only [chkE] using e)
      exact pe_tupD (pa_D (sndA es c Γ X xs h e1)) (of_decide_eq_true e2)
    | _ => simp [chkE] at e
  | .lst es, c, Γ, X, x, h, e => by
    cases x with
    | List xs p =>
      obtain ⟨e1, e2⟩ := and1 (by simpa only [chkE] using e)
      exact pe_lstD (pa_D (sndA es c Γ X xs h e1)) (of_decide_eq_true e2)
    | _ => simp [chkE] at e
  | .dk0, c, Γ, X, x, h, e => by
    cases x with
    | Dict ks vs p =>
      cases ks with
      | nil => cases vs with
        | nil => exact pe_dk0D
        | cons _ _ => simp [chkE] at e
      | cons _ _ => simp [chkE] at e
    | _ => simp [chkE] at e
  | .dt0, c, Γ, X, x, h, e => by
    cases x with
    | Dict ks vs p =>
      cases ks with
      | nil => cases vs with
        | nil => exact pe_dt0D h.hP h.hw
        | cons _ _ => simp [chkE] at e
      | cons _ _ => simp [chkE] at e
    | _ => simp [chkE] at e
  | .bin op a b, c, Γ, X, x, h, e => by
    cases x with
    | BinOp y o z p =>
      simp only [chkE, Bool.and_eq_true, decide_eq_true_eq] at e
      obtain ⟨⟨rfl, e1⟩, e2⟩ := e
      exact pe_binD (opR_of h op) (sndE a c Γ X y h e1) (sndE b c Γ X z h e2)
    | _ => simp [chkE] at e
  | .neg a, c, Γ, X, x, h, e => by
    cases x with
    | UnaryOp o y p =>
      cases o with
      | USub => exact pe_negD (sndE a c Γ X y h (by simpa only [chkE] using e)) h.hK
      | _ => simp [chkE] at e
    | _ => simp [chkE] at e
  | .cmp op a b, c, Γ, X, x, h, e => by
    cases x with
    | Compare y os zs p =>
      match os, zs, e with
      | [o], [z], e =>
        simp only [chkE, Bool.and_eq_true, decide_eq_true_eq] at e
        obtain ⟨⟨⟨rfl, e0⟩, e1⟩, e2⟩ := e
        exact pe_cmpD (cmR_of h op) (sndE a c Γ X y h e1) (sndE b c Γ X z h e2) (not1 e0)
      | [], _, e => simp [chkE] at e
      | [_], [], e => simp [chkE] at e
      | [_], _ :: _ :: _, e => simp [chkE] at e
      | _ :: _ :: _, _, e => simp [chkE] at e
    | _ => simp [chkE] at e
  | .chn o1 o2 a b d, c, Γ, X, x, h, e => by
    cases x with
    | Compare y os zs p =>
      match os, zs, e with
      | [p1, p2], [z1, z2], e =>
        simp only [chkE, Bool.and_eq_true, decide_eq_true_eq] at e
        obtain ⟨⟨⟨⟨⟨rfl, rfl⟩, e0⟩, e1⟩, e2⟩, e3⟩ := e
        exact pe_chnD (cmR_of h o1) (cmR_of h o2) (sndE a c Γ X y h e1) (sndE b c Γ X z1 h e2) (sndE d c Γ X z2 h e3) (not1 e0)
      | [], _, e => simp [chkE] at e
      | [_], _, e => simp [chkE] at e
      | [_, _], [], e => simp [chkE] at e
      | [_, _], [_], e => simp [chkE] at e
      | [_, _], _ :: _ :: _ :: _, e => simp [chkE] at e
      | _ :: _ :: _ :: _, _, e => simp [chkE] at e
    | _ => simp [chkE] at e
  | .and es, c, Γ, X, x, h, e => by
    cases x with
    | BoolOp o xs p =>
      cases o with
      | And =>
        obtain ⟨e1, e2⟩ := and1 (by simpa only [chkE] using e)
        exact pe_andD (fun z => by rw [z] at e2; cases e2) (sndV es c Γ X xs h e1)
      | _ => simp [chkE] at e
    | _ => simp [chkE] at e
  | .or es, c, Γ, X, x, h, e => by
    cases x with
    | BoolOp o xs p =>
      cases o with
      | Or =>
        obtain ⟨e1, e2⟩ := and1 (by simpa only [chkE] using e)
        exact pe_orD (fun z => by rw [z] at e2; cases e2) (sndV es c Γ X xs h e1)
      | _ => simp [chkE] at e
    | _ => simp [chkE] at e
  | .not a, c, Γ, X, x, h, e => by
    cases x with
    | UnaryOp o y p =>
      cases o with
      | Not => exact pe_notD (sndE a c Γ X y h (by simpa only [chkE] using e))
      | _ => simp [chkE] at e
    | _ => simp [chkE] at e
  | .ite t a b, c, Γ, X, x, h, e => by
    cases x with
    | IfExp u y z p =>
      simp only [chkE, Bool.and_eq_true] at e
      obtain ⟨⟨⟨⟨e0, e1⟩, e2⟩, e3⟩, e4⟩ := e
      exact pe_iteD (sndQ t c Γ X u h e0) (sndE a c Γ X y h e1) (sndE b c Γ X z h e2) (not1 e3) (not1 e4)
    | _ => simp [chkE] at e
  | .idx a b, c, Γ, X, x, h, e => by
    cases x with
    | Subscript y z p =>
      simp only [chkE, Bool.and_eq_true] at e
      obtain ⟨⟨e0, e1⟩, e2⟩ := e
      exact pe_idxD h.hu h.hK (sndE a c Γ X y h e1) (sndE b c Γ X z h e2) (plain_of e0)
    | _ => simp [chkE] at e
  | .sli a lo hi, c, Γ, X, x, h, e => by
    cases x with
    | Subscript y z p =>
      cases z with
      | Slice l u s q =>
        cases s with
        | none =>
          simp only [chkE, Bool.and_eq_true] at e
          obtain ⟨⟨e1, e2⟩, e3⟩ := e
          refine pe_sliD h.hK (sndE a c Γ X y h e1) ?_ ?_
          · cases l with
            | none => exact po_noneD e2
            | some l => obtain ⟨f1, f2⟩ := and1 e2
                        exact po_someD (not1 f1) (sndE lo c Γ X l h f2)
          · cases u with
            | none => exact po_noneD e3
            | some u => obtain ⟨f1, f2⟩ := and1 e3
                        exact po_someD (not1 f1) (sndE hi c Γ X u h f2)
        | some s => simp [chkE] at e
      | _ => simp [chkE] at e
    | _ => simp [chkE] at e
  | .call f es, c, Γ, X, x, h, e => by
    cases x with
    | Call g xs ks p =>
      cases g with
      | Name n q =>
        cases ks with
        | nil =>
          simp only [chkE, Bool.and_eq_true] at e
          obtain ⟨⟨e0, e1⟩, e2⟩ := e
          cases hf : T.fn f with
          | none => rw [hf] at e0; cases e0
          | some fn =>
            rw [hf] at e0
            simp only [Bool.and_eq_true, decide_eq_true_eq] at e0
            obtain ⟨rfl, e3⟩ := e0
            exact pe_callD h.hK (h.fns f fn hf) h.room (h.glo e1) h.pass (sndA es c Γ X xs h e2) e3
        | cons _ _ => simp [chkE] at e
      | _ => simp [chkE] at e
    | _ => simp [chkE] at e
  | .blt b a, c, Γ, X, x, h, e => by
    cases x with
    | Call g xs ks p =>
      cases g with
      | Name n q =>
        match xs, ks, e with
        | [y], [], e =>
          simp only [chkE, Bool.and_eq_true] at e
          obtain ⟨⟨⟨e9, e0⟩, e1⟩, e2⟩ := e
          obtain ⟨h1, h2, h3⟩ := h.blt e0
          exact pe_bltD h1 (clR_of h b e9) h2 h3 (sndE a c Γ X y h e2) (star_of e1)
        | [], _, e => simp [chkE] at e
        | [_], _ :: _, e => simp [chkE] at e
        | _ :: _ :: _, _, e => simp [chkE] at e
      | _ => simp [chkE] at e
    | _ => simp [chkE] at e
  | .mth m o a, c, Γ, X, x, h, e => by
    cases x with
    | Call g xs ks p =>
      cases g with
      | Attribute y n ap =>
        match xs, ks, e with
        | [z], [], e =>
          simp only [chkE, Bool.and_eq_true, decide_eq_true_eq] at e
          obtain ⟨⟨⟨⟨⟨rfl, e1⟩, e2⟩, e3⟩, e4⟩, e5⟩ := e
          exact pe_mthD rfl h.hK (sndE o c Γ X y h e4) (sndE a c Γ X z h e5) (star_of e2) (sup_of e1) e3
        | [], _, e => simp [chkE] at e
        | [_], _ :: _, e => simp [chkE] at e
        | _ :: _ :: _, _, e => simp [chkE] at e
      | _ => simp [chkE] at e
    | _ => simp [chkE] at e
  | .get o q d, c, Γ, X, x, h, e => by
    cases x with
    | Call g xs ks p =>
      cases g with
      | Attribute y n ap =>
        match xs, ks, e with
        | [z1, z2], [], e =>
          simp only [chkE, Bool.and_eq_true, decide_eq_true_eq] at e
          obtain ⟨⟨⟨⟨⟨⟨⟨⟨rfl, e1⟩, e2⟩, e3⟩, e4⟩, e5⟩, e6⟩, e7⟩, e8⟩ := e
          exact pe_getD h.hu (sndE o c Γ X y h e5) (sndE q c Γ X z1 h e6) (sndE d c Γ X z2 h e7) (star_of e2) (star_of e3) (not1 e8) (sup_of e1) e4
        | [], _, e => simp [chkE] at e
        | [_], _, e => simp [chkE] at e
        | [_, _], _ :: _, e => simp [chkE] at e
        | _ :: _ :: _ :: _, _, e => simp [chkE] at e
      | _ => simp [chkE] at e
    | _ => simp [chkE] at e
  | .isi a t, c, Γ, X, x, h, e => by
    cases x with
    | Call g xs ks p =>
      cases g with
      | Name n q =>
        match xs, ks, e with
        | [y, z], [], e =>
          simp only [chkE, Bool.and_eq_true] at e
          obtain ⟨⟨⟨e0, e1⟩, e2⟩, e3⟩ := e
          obtain ⟨rfl, h2, h3⟩ := h.blt e0
          exact h.tyc h2 h3 (sndE a c Γ X y h e2) (star_of e1) e3
        | [], _, e => simp [chkE] at e
        | [_], _, e => simp [chkE] at e
        | [_, _], _ :: _, e => simp [chkE] at e
        | _ :: _ :: _ :: _, _, e => simp [chkE] at e
      | _ => simp [chkE] at e
    | _ => simp [chkE] at e
  | .callb f es, c, Γ, X, x, h, e => by
    cases x with
    | Call g xs ks p =>
      cases g with
      | Name n q =>
        cases ks with
        | nil =>
          simp only [chkE, Bool.and_eq_true] at e
          obtain ⟨⟨⟨⟨e0, e1⟩, e2⟩, e3⟩, e4⟩ := e
          cases hf : T.fn f with
          | none => rw [hf] at e0; cases e0
          | some fn =>
            rw [hf] at e0
            simp only [Bool.and_eq_true, decide_eq_true_eq] at e0
            obtain ⟨rfl, e5⟩ := e0
            exact pe_callbD h.hK (h.fns f fn hf) h.room (h.glo e1) h.pass (star_all e2 (sndV es c Γ X xs h e4)) e5 (fun z => by rw [z] at e3; cases e3)
        | cons _ _ => simp [chkE] at e
      | _ => simp [chkE] at e
    | _ => simp [chkE] at e
  | .u1 u a, c, Γ, X, x, h, e => by
    obtain ⟨e1, e2⟩ := and1 (by simpa only [chkE] using e)
    exact h.u1c e1 fun hs => sndE a c Γ X _ h e2
  | .u2 u a b, c, Γ, X, x, h, e => by
    obtain ⟨e1, e2⟩ := and1 (by simpa only [chkE] using e)
    obtain ⟨e0, e1⟩ := and1 e1
    exact h.u2c e0 (sndE a c Γ X _ h e1) (sndE b c Γ X _ h e2)
  | .fnv f, c, Γ, X, x, h, e => by
    cases x with
    | Name n q =>
      simp only [chkE, Bool.and_eq_true, decide_eq_true_eq] at e
      obtain ⟨⟨e0, e1⟩, e2⟩ := e
      cases hf : T.fn f with
      | none => rw [hf] at e0; cases e0
      | some fn =>
        rw [hf] at e0
        have e0 := of_decide_eq_true e0
        subst e0
        exact pe_fnvD e2 (h.glo e1) (h.fad f fn hf) (h.fns f fn hf).db
    | _ => simp [chkE] at e
  | .calv i es, c, Γ, X, x, h, e => by
    cases x with
    | Call g xs ks p =>
      cases g with
      | Name n q =>
        cases ks with
        | nil =>
          simp only [chkE, Bool.and_eq_true] at e
          obtain ⟨⟨e1, e3⟩, e2⟩ := e
          obtain ⟨h1, h2, h3, h4⟩ := h.name e1
          have pa := sndA es c Γ X xs h e2
          have pD := pa_D pa
          cases pa with
          | nil => cases e3
          | cons q t =>
            refine pe_calvD (dom := fun f => (T.fn f).map fun fn => (fn.ps, toS fn.name)) h.hK (fun f n y e => ?_) (fun f ds h6 h9 hq => h.dom f ds h6 h9 fun fn hf => hq _ _ (by rw [hf]; rfl)) (by rw [h.no9]; rfl) h.cl h.room h1 h2 h3 h4 h.pass pD q.2.2 (star_rest t)
            cases hf : T.fn f with
            | none => rw [hf] at e; cases e
            | some fn =>
              rw [hf] at e
              cases e
              exact ⟨h.fns f fn hf, h.fad f fn hf⟩
        | cons _ _ => simp [chkE] at e
      | _ => simp [chkE] at e
    | _ => simp [chkE] at e
  | .calw i es, c, Γ, X, x, h, e => by
    match es, x, e with
    | [a, b], .Call (.Name n q) [y, z] [] p, e =>
      simp only [chkE, Bool.and_eq_true] at e
      obtain ⟨⟨⟨⟨⟨⟨⟨e1, e2⟩, e3⟩, e4⟩, e5⟩, e6⟩, e7⟩, e8⟩ := e
      obtain ⟨h1, h2, h3, h4⟩ := h.name e1
      have hfr : fresh c.frf b = true := by rw [h.frf]; exact e8
      rcases h.cw with hno | ⟨hc, hx, hs⟩
      · exact pe_calwD h.hK (.inl hno) (fun ds x z => by rw [hno] at z; cases z) (fun ds d z => by rw [hno] at z; cases z) h.room h1 h2 h3 h4 (sndE a c Γ X y h e2) (sndE b c Γ X z h e3) (not1 e4) (not1 e5) hfr (star_of e6) (star_of e7)
      · exact pe_calwD h.hK (.inr hc) hx hs h.room h1 h2 h3 h4 (sndE a c Γ X y h e2) (sndE b c Γ X z h e3) (not1 e4) (not1 e5) hfr (star_of e6) (star_of e7)
  | .cwc g es cid js, c, Γ, X, x, h, e => by
    match es, x, e with
    | [ce], .Call (.Name n q) [y, l] [] p, e =>
      simp only [chkE, Bool.and_eq_true, decide_eq_true_eq] at e
      obtain ⟨⟨⟨⟨⟨⟨⟨e1, e2⟩, e3⟩, e4⟩, e5⟩, e6⟩, e7⟩, e8⟩ := e
      cases hf : T.fn g with
      | none => rw [hf] at e1; cases e1
      | some fn =>
        rw [hf] at e1
        simp only [Bool.and_eq_true, decide_eq_true_eq] at e1
        obtain ⟨⟨cc, P, tb, hcode, hm, hu⟩, hfn⟩ := h.mkr _ e6
        have eL : toS [60, 108, 97, 109, 98, 100, 97, 62] = ("<lambda>" : Str) := by decide +kernel
        rw [eL] at hm hu
        have ht := h.chl _ _ _ e7
        rw [← h.sc] at ht
        have hjs : js.map (fun j => X.N[j]?) = (T.cli cid).2.map some := by rw [h.hN]; exact e8
        have pe := sndE ce c Γ X y h e3
        match l, ht with
        | .Lambda params body scope lpos, ht =>
          obtain ⟨h1, h2, h3⟩ := chl_inv ht
          have hd : defaultsOf params X.env = ([], []) := h1 X.env
          exact pe_cwcD h.hK (h.tak (.inl ⟨_, _, _, e7⟩) g fn hf) e1.2 e1.1 h.room (h.glo e2) (e1.1 ▸ (h.fns g fn hf).db) pe (not1 e4) (star_of e5) (pe_lam tb hcode hm hu hd fun ok y hy e => (h2 y hy e).elim (fun z => ok.has _ (.inl z)) fun z => ok.has _ (.inr z)) ht h2 h3 hjs hfn
  | .lc own tg it ifs el, c, Γ, X, x, h, e => by
    cases x with
    | ListComp y gs scope p =>
      match gs, e with
      | [⟨te, ie, fs, ay⟩], e =>
        simp only [chkE, Bool.and_eq_true, decide_eq_true_eq] at e
        obtain ⟨⟨⟨⟨⟨⟨⟨⟨⟨rfl, e1⟩, e2⟩, e3⟩, e4⟩, e5⟩, e6⟩, e7⟩, e8⟩, e9⟩ := e
        have hM : ∀ i ∈ own, Γ.M.contains i = false := fun i hi => not1 (List.all_eq_true.mp e4 i hi)
        have htg : tgIn tg own := by
          cases tg with
          | one i => exact List.contains_iff_mem.mp e5
          | tup is => exact fun i hi => List.contains_iff_mem.mp (List.all_eq_true.mp e5 i hi)
        have hown : (ownOf Γ.N own).map (·.2) = own := by
          unfold ownOf
          rw [List.map_map]
          show own.map (fun i => i) = own
          simp
        have nd : X.N.Nodup := by rw [h.hN]; exact h.nd
        have pl := pe_lc (pos := p) (own := ownOf Γ.N own) h.calm nd (sndI it c Γ X ie te h e1) (by rw [h.hN, h.sc]; exact blkOk_by e3)
          (fun s H C cl fp => (h.blk (scope := scope) s H C cl fp).tgt e6) (fun s H C cl fp => sndF ifs c.q _ _ fs (h.blk (scope := scope) s H C cl fp) e7) (fun s H C cl fp => sndE el c.q _ _ y (h.blk (scope := scope) s H C cl fp) e8) (set_of e2)
        rw [hown] at pl
        exact pl.imp fun σ H Q q => lc_D (not1 e9) hM htg (okTI_of e1 e6) q
      | [], e => simp [chkE] at e
      | _ :: _ :: _, e => simp [chkE] at e
    | _ => simp [chkE] at e
theorem sndA : ∀ (es : List E) (c : Cn) (Γ : Sta) (X : Cx) (xs : List Expr), CxOk T c k Γ X → chkA T es Γ xs = true → Paired (fun x ce => PE X x (tE c Γ.M ce) ∧ bor Γ.M ce = false ∧ NoStar X x) xs es
  | [], c, Γ, X, [], h, e => .nil
  | [], c, Γ, X, _ :: _, h, e => by simp [chkA] at e
  | _ :: _, c, Γ, X, [], h, e => by simp [chkA] at e
  | a :: r, c, Γ, X, x :: q, h, e => by
    simp only [chkA, Bool.and_eq_true] at e
    obtain ⟨⟨⟨e1, e2⟩, e3⟩, e4⟩ := e
    exact .cons ⟨sndE a c Γ X x h e1, not1 e2, star_of e3⟩ (sndA r c Γ X q h e4)
theorem sndV : ∀ (es : List E) (c : Cn) (Γ : Sta) (X : Cx) (xs : List Expr), CxOk T c k Γ X → chkV T es Γ xs = true → Paired (fun x ce => PE X x (tE c Γ.M ce)) xs es
  | [], c, Γ, X, [], h, e => .nil
  | [], c, Γ, X, _ :: _, h, e => by simp [chkV] at e
  | _ :: _, c, Γ, X, [], h, e => by simp [chkV] at e
  | a :: r, c, Γ, X, x :: q, h, e => by
    simp only [chkV, Bool.and_eq_true] at e
    exact .cons (sndE a c Γ X x h e.1) (sndV r c Γ X q h e.2)
theorem sndI : ∀ (it : Ir) (c : Cn) (Γ : Sta) (X : Cx) (x te : Expr), CxOk T c k Γ X → chkI T it Γ x (isTupE te) = true → PI X te x (tI c Γ.M it)
  | .seq e, c, Γ, X, x, te, h, q => pi_seqD h.hK (sndE e c Γ X x h (by simpa only [chkI] using q))
  | .rng1 a, c, Γ, X, x, te, h, e => by
    cases x with
    | Call g xs ks p =>
      cases g with
      | Name n q =>
        match xs, ks, e with
        | [y], [], e =>
          simp only [chkI, Bool.and_eq_true] at e
          obtain ⟨⟨e0, e1⟩, e2⟩ := e
          obtain ⟨rfl, h2, h3⟩ := h.blt e0
          exact pi_rng1D h2 h3 (sndE a c Γ X y h e2) (star_of e1)
        | [], _, e => simp [chkI] at e
        | [_], _ :: _, e => simp [chkI] at e
        | _ :: _ :: _, _, e => simp [chkI] at e
      | _ => simp [chkI] at e
    | _ => simp [chkI] at e
  | .rng2 a b, c, Γ, X, x, te, h, e => by
    cases x with
    | Call g xs ks p =>
      cases g with
      | Name n q =>
        match xs, ks, e with
        | [y, z], [], e =>
          simp only [chkI, Bool.and_eq_true] at e
          obtain ⟨⟨⟨⟨e0, e1⟩, e2⟩, e3⟩, e4⟩ := e
          obtain ⟨rfl, h2, h3⟩ := h.blt e0
          exact pi_rng2D h2 h3 (sndE a c Γ X y h e3) (sndE b c Γ X z h e4) (star_of e1) (star_of e2)
        | [], _, e => simp [chkI] at e
        | [_], _, e => simp [chkI] at e
        | [_, _], _ :: _, e => simp [chkI] at e
        | _ :: _ :: _ :: _, _, e => simp [chkI] at e
      | _ => simp [chkI] at e
    | _ => simp [chkI] at e
  | .enm a, c, Γ, X, x, te, h, e => by
    cases x with
    | Call g xs ks p =>
      cases g with
      | Name n q =>
        match xs, ks, e with
        | [y], [], e =>
          simp only [chkI, Bool.and_eq_true] at e
          obtain ⟨⟨⟨⟨e9, e0⟩, e1⟩, e2⟩, e3⟩ := e
          obtain ⟨rfl, h2, h3⟩ := h.blt e0
          cases te with
          | Tuple es j p => exact pi_enmD h.hK h2 h3 (sndE a c Γ X y h e2) (star_of e1) (not1 e3)
          | _ => cases e9
        | [], _, e => simp [chkI] at e
        | [_], _ :: _, e => simp [chkI] at e
        | _ :: _ :: _, _, e => simp [chkI] at e
      | _ => simp [chkI] at e
    | _ => simp [chkI] at e
  | .zip a b, c, Γ, X, x, te, h, e => by
    cases x with
    | Call g xs ks p =>
      cases g with
      | Name n q =>
        match xs, ks, e with
        | [y, z], [], e =>
          simp only [chkI, Bool.and_eq_true] at e
          obtain ⟨⟨⟨⟨⟨⟨⟨e9, e0⟩, e1⟩, e2⟩, e3⟩, e4⟩, e5⟩, e6⟩ := e
          obtain ⟨rfl, h2, h3⟩ := h.blt e0
          cases te with
          | Tuple es j p => exact pi_zipD h.hK h2 h3 (sndE a c Γ X y h e3) (sndE b c Γ X z h e4) (star_of e1) (star_of e2) (not1 e5) (not1 e6)
          | _ => cases e9
        | [], _, e => simp [chkI] at e
        | [_], _, e => simp [chkI] at e
        | [_, _], _ :: _, e => simp [chkI] at e
        | _ :: _ :: _ :: _, _, e => simp [chkI] at e
      | _ => simp [chkI] at e
    | _ => simp [chkI] at e
theorem sndQ : ∀ (e : E) (c : Cn) (Γ : Sta) (X : Cx) (x : Expr), CxOk T c k Γ X → chkQ T e Γ x = true → PT X x (tQ c Γ.M e)
  | .not a, c, Γ, X, x, h, e => by
    cases x with
    | UnaryOp o y p =>
      cases o with
      | Not => exact pt_notD (sndQ a c Γ X y h (by simpa only [chkQ] using e))
      | _ => simp [chkQ] at e
    | _ => simp [chkQ] at e
  | .and es, c, Γ, X, x, h, e => by
    cases x with
    | BoolOp o xs p =>
      cases o with
      | And =>
        obtain ⟨e1, e2⟩ := and1 (by simpa only [chkQ] using e)
        exact (pw_andD (fun z => by rw [z] at e2; cases e2) (sndQs es c Γ X xs h e1)).pt.imp fun σ H Q ⟨H0, Oc, Ts, ρ, env, r⟩ => ⟨H0, Oc, Ts, ρ, env, by simpa only [tst] using r⟩
      | _ => simp [chkQ] at e
    | _ => simp [chkQ] at e
  | .or es, c, Γ, X, x, h, e => by
    cases x with
    | BoolOp o xs p =>
      cases o with
      | Or =>
        obtain ⟨e1, e2⟩ := and1 (by simpa only [chkQ] using e)
        exact (pw_orD (fun z => by rw [z] at e2; cases e2) (sndQs es c Γ X xs h e1)).pt.imp fun σ H Q ⟨H0, Oc, Ts, ρ, env, r⟩ => ⟨H0, Oc, Ts, ρ, env, by simpa only [tst] using r⟩
      | _ => simp [chkQ] at e
    | _ => simp [chkQ] at e
  | .var i, c, Γ, X, x, h, e => by
    cases x with
    | Name n p =>
      obtain ⟨h1, h2, h3, h4⟩ := h.name (by simpa only [chkQ] using e)
      exact pt_truD (pe_varD h1 h2 h3 h4) h.hK (fun ρ => by simp only [tst, ev]) (fun _ => rfl)
    | _ => simp [chkQ] at e
  | .cmp op a b, c, Γ, X, x, h, e => by
    cases x with
    | Compare y os zs p =>
      match os, zs, e with
      | [o], [z], e =>
        simp only [chkQ, Bool.and_eq_true, decide_eq_true_eq] at e
        obtain ⟨⟨⟨rfl, e0⟩, e1⟩, e2⟩ := e
        exact pt_cmpD (cmR_of h op) (sndE a c Γ X y h e1) (sndE b c Γ X z h e2) (not1 e0)
      | [], _, e => simp [chkQ] at e
      | [_], [], e => simp [chkQ] at e
      | [_], _ :: _ :: _, e => simp [chkQ] at e
      | _ :: _ :: _, _, e => simp [chkQ] at e
    | _ => simp [chkQ] at e
  | .chn o1 o2 a b d, c, Γ, X, x, h, e => by
    cases x with
    | Compare y os zs p =>
      match os, zs, e with
      | [p1, p2], [z1, z2], e =>
        simp only [chkQ, Bool.and_eq_true, decide_eq_true_eq] at e
        obtain ⟨⟨⟨⟨⟨rfl, rfl⟩, e0⟩, e1⟩, e2⟩, e3⟩ := e
        exact pt_chnD (cmR_of h o1) (cmR_of h o2) (sndE a c Γ X y h e1) (sndE b c Γ X z1 h e2) (sndE d c Γ X z2 h e3) (not1 e0)
      | [], _, e => simp [chkQ] at e
      | [_], _, e => simp [chkQ] at e
      | [_, _], [], e => simp [chkQ] at e
      | [_, _], [_], e => simp [chkQ] at e
      | [_, _], _ :: _ :: _ :: _, e => simp [chkQ] at e
      | _ :: _ :: _ :: _, _, e => simp [chkQ] at e
    | _ => simp [chkQ] at e
  | .call f es, c, Γ, X, x, h, e => by
    cases x with
    | Call g xs ks p =>
      cases g with
      | Name n q =>
        cases ks with
        | nil =>
          simp only [chkQ, Bool.and_eq_true] at e
          obtain ⟨⟨e0, e1⟩, e2⟩ := e
          cases hf : T.fn f with
          | none => rw [hf] at e0; cases e0
          | some fn =>
            rw [hf] at e0
            simp only [Bool.and_eq_true, decide_eq_true_eq] at e0
            obtain ⟨rfl, e3⟩ := e0
            exact pt_truD (pe_callD h.hK (h.fns f fn hf) h.room (h.glo e1) h.pass (sndA es c Γ X xs h e2) e3) h.hK (fun ρ => by simp only [tst, ev, bind_assoc']) (fun _ => rfl)
        | cons _ _ => simp [chkQ] at e
      | _ => simp [chkQ] at e
    | _ => simp [chkQ] at e
  | .blt b a, c, Γ, X, x, h, e => by
    cases x with
    | Call g xs ks p =>
      cases g with
      | Name n q =>
        match xs, ks, e with
        | [y], [], e =>
          simp only [chkQ, Bool.and_eq_true] at e
          obtain ⟨⟨⟨e9, e0⟩, e1⟩, e2⟩ := e
          obtain ⟨h1, h2, h3⟩ := h.blt e0
          exact pt_truD (pe_bltD h1 (clR_of h b e9) h2 h3 (sndE a c Γ X y h e2) (star_of e1)) h.hK (fun ρ => by simp only [tst, ev, bind_assoc']) (fun _ => rfl)
        | [], _, e => simp [chkQ] at e
        | [_], _ :: _, e => simp [chkQ] at e
        | _ :: _ :: _, _, e => simp [chkQ] at e
      | _ => simp [chkQ] at e
    | _ => simp [chkQ] at e
  | .isi a t, c, Γ, X, x, h, e => by
    cases x with
    | Call g xs ks p =>
      cases g with
      | Name n q =>
        match xs, ks, e with
        | [y, z], [], e =>
          simp only [chkQ, Bool.and_eq_true] at e
          obtain ⟨⟨⟨e0, e1⟩, e2⟩, e3⟩ := e
          obtain ⟨rfl, h2, h3⟩ := h.blt e0
          exact pt_blD (h.tyc h2 h3 (sndE a c Γ X y h e2) (star_of e1) e3) (fun ρ => by simp only [tst, ev, bind_assoc']) (fun _ => rfl)
        | [], _, e => simp [chkQ] at e
        | [_], _, e => simp [chkQ] at e
        | [_, _], _ :: _, e => simp [chkQ] at e
        | _ :: _ :: _ :: _, _, e => simp [chkQ] at e
      | _ => simp [chkQ] at e
    | _ => simp [chkQ] at e
  | .cst _, c, Γ, X, x, h, e => by simp [chkQ] at e
  | .glb _ _, c, Γ, X, x, h, e => by simp [chkQ] at e
  | .tup _, c, Γ, X, x, h, e => by simp [chkQ] at e
  | .lst _, c, Γ, X, x, h, e => by simp [chkQ] at e
  | .dk0, c, Γ, X, x, h, e => by simp [chkQ] at e
  | .dt0, c, Γ, X, x, h, e => by simp [chkQ] at e
  | .bin _ _ _, c, Γ, X, x, h, e => by simp [chkQ] at e
  | .neg _, c, Γ, X, x, h, e => by simp [chkQ] at e
  | .ite _ _ _, c, Γ, X, x, h, e => by simp [chkQ] at e
  | .idx _ _, c, Γ, X, x, h, e => by simp [chkQ] at e
  | .sli _ _ _, c, Γ, X, x, h, e => by simp [chkQ] at e
  | .mth _ _ _, c, Γ, X, x, h, e => by simp [chkQ] at e
  | .get _ _ _, c, Γ, X, x, h, e => by simp [chkQ] at e
  | .lc own tg it ifs el, c, Γ, X, x, h, e => by
    cases x with
    | ListComp y gs scope p =>
      match gs, e with
      | [⟨te, ie, fs, ay⟩], e =>
        simp only [chkQ, Bool.and_eq_true, decide_eq_true_eq] at e
        obtain ⟨⟨⟨⟨⟨⟨⟨⟨⟨rfl, e1⟩, e2⟩, e3⟩, e4⟩, e5⟩, e6⟩, e7⟩, e8⟩, e9⟩ := e
        have hM : ∀ i ∈ own, Γ.M.contains i = false := fun i hi => not1 (List.all_eq_true.mp e4 i hi)
        have htg : tgIn tg own := by
          cases tg with
          | one i => exact List.contains_iff_mem.mp e5
          | tup is => exact fun i hi => List.contains_iff_mem.mp (List.all_eq_true.mp e5 i hi)
        have hown : (ownOf Γ.N own).map (·.2) = own := by
          unfold ownOf
          rw [List.map_map]
          show own.map (fun i => i) = own
          simp
        have nd : X.N.Nodup := by rw [h.hN]; exact h.nd
        have pl := pe_lc (pos := p) (own := ownOf Γ.N own) h.calm nd (sndI it c Γ X ie te h e1) (by rw [h.hN, h.sc]; exact blkOk_by e3)
          (fun s H C cl fp => (h.blk (scope := scope) s H C cl fp).tgt e6) (fun s H C cl fp => sndF ifs c.q _ _ fs (h.blk (scope := scope) s H C cl fp) e7) (fun s H C cl fp => sndE el c.q _ _ y (h.blk (scope := scope) s H C cl fp) e8) (set_of e2)
        rw [hown] at pl
        exact pt_truD (pl.imp fun σ H Q q => lc_D (not1 e9) hM htg (okTI_of e1 e6) q) h.hK (fun ρ => tst_lc) (fun _ => rfl)
      | [], e => simp [chkQ] at e
      | _ :: _ :: _, e => simp [chkQ] at e
    | _ => simp [chkQ] at e
  | .callb _ _, c, Γ, X, x, h, e => by simp [chkQ] at e
  | .u1 _ _, c, Γ, X, x, h, e => by simp [chkQ] at e
  | .u2 _ _ _, c, Γ, X, x, h, e => by simp [chkQ] at e
  | .fnv _, c, Γ, X, x, h, e => by simp [chkQ] at e
  | .calv _ _, c, Γ, X, x, h, e => by simp [chkQ] at e
  | .cwc _ _ _ _, c, Γ, X, x, h, e => by simp [chkQ] at e
  | .calw _ _, c, Γ, X, x, h, e => by simp [chkQ] at e
theorem sndQs : ∀ (es : List E) (c : Cn) (Γ : Sta) (X : Cx) (xs : List Expr), CxOk T c k Γ X → chkQs T es Γ xs = true → Paired (fun x ce => PT X x (tQ c Γ.M ce)) xs es
  | [], c, Γ, X, [], h, e => .nil
  | [], c, Γ, X, _ :: _, h, e => by simp [chkQs] at e
  | _ :: _, c, Γ, X, [], h, e => by simp [chkQs] at e
  | a :: r, c, Γ, X, x :: q, h, e => by
    simp only [chkQs, Bool.and_eq_true] at e
    exact .cons (sndQ a c Γ X x h e.1) (sndQs r c Γ X q h e.2)
theorem sndF : ∀ (es : List E) (c : Cn) (Γ : Sta) (X : Cx) (xs : List Expr), CxOk T c k Γ X → chkF T es Γ xs = true → PTs X xs (tTs c Γ.M es)
  | [], c, Γ, X, [], h, e => pts_nilD
  | [], c, Γ, X, _ :: _, h, e => by simp [chkF] at e
  | [a], c, Γ, X, xs, h, e => by
    match xs, e with
    | [x], e => exact pts_oneD (sndQ a c Γ X x h (by simpa only [chkF] using e))
    | [], e => simp [chkF] at e
    | _ :: _ :: _, e => simp [chkF] at e
  | _ :: _ :: _, c, Γ, X, xs, h, e => by simp [chkF] at e
end
end
end MT
end
section
set_option Elab.async false
set_option linter.all false
set_option maxRecDepth 100000
set_option maxHeartbeats 8000000
/-! Mt8: raise, try .. except .. as: the text is the small language's, and does what it does. -/
namespace MT
open PySem PySem.Spec L2
variable [Pw]
omit [Pw] in
def chkHa (T : Tb) (Γ : Sta) (j : Nat) : Ha → Expr → Bool
  | .var i, .Name x _ => chkN Γ i x && !Γ.M.contains i
  | .cst d, .Constant k _ _ => chkC d k
  | .isx b, .Call (.Name f _) [.Name n _, .Name z _] [] _ => chkB T Γ f "isinstance" && chkN Γ j n && T.xn.contains b && decide (z = toS (xNm b)) && glB Γ.sc z && (decide (b ≠ 6) || (T.bl.contains z && decide (z = ("ValueError" : Str)))) && !(z == ("__debug__" : Str))
  | .nm, .Attribute (.Name n _) f _ => chkN Γ j n && decide (f = ("name" : Str))
  | _, _ => false
def chkHas (T : Tb) (Γ : Sta) (j : Nat) : List Ha → List Expr → Bool
  | [], [] => true
  | h :: r, x :: q => chkHa T Γ j h x && chkHas T Γ j r q
  | _, _ => false
def chkHe (T : Tb) (Γ : Sta) (j : Nat) : He → Expr → Bool
  | .a h, x => chkHa T Γ j h x
  | .ors bs, .BoolOp .Or xs _ => !xs.isEmpty && chkHas T Γ j (bs.map Ha.isx) xs
  | .tup hs, .Tuple xs _ _ => decide (hs.length ≤ LIM) && chkHas T Γ j hs xs
  | _, _ => false
def chkHs (T : Tb) (Γ : Sta) (j : Nat) : Hs → Stmt → Bool
  | .asg i e, .Assign [.Name x _] v _ => chkS Γ i x && noCmp v && chkHe T Γ j e v
  | .ifq l r i e, .If (.Compare x [o] [y] _) [.Assign [.Name z _] v _] [] _ => chkHa T Γ j (.var l) x && decide (o = CmpOp.Eq) && !behindInMarks o y && chkHe T Γ j r y && (chkS Γ i z && noCmp v && chkHe T Γ j e v)
  | _, _ => false
def chkHss (T : Tb) (Γ : Sta) (j : Nat) : List Hs → List Stmt → Bool
  | [], [] => true
  | h :: r, x :: q => chkHs T Γ j h x && chkHss T Γ j r q
  | _, _ => false
def chkTry (T : Tb) (i f : Nat) (es : List E) (j : Nat) (hs : List Hs) (Γ : Sta) : Stmt → Bool
  | .Try [.Assign [.Name xi _] (.Call (.Name xf _) (e0 :: xs) [] _) _] [.ExceptHandler (some (.Name te _)) (some nj) (b0 :: su) _] [] [] _ =>
    (match T.fn f with | some fn => decide (xf = toS fn.name) && decide (es.length = fn.ps) | none => false) && (chkS Γ i xi && !Γ.M.contains i && !Γ.M.contains j && hs.all (noJH j Γ.M) && glB Γ.sc xf && chkA T es Γ (e0 :: xs) && decide (te = toS (xNm 0)) && glB Γ.sc te && chkN Γ j nj && lB Γ.sc nj && !T.xr.isEmpty && chkHss T Γ j hs (b0 :: su))
  | _ => false
def chkRai (T : Tb) (b : Nat) (a : Option E) (Γ : Sta) : Stmt → Bool
  | .Raise (some (.Call (.Name x _) [y] [] _)) none _ => T.xr.contains b && glB Γ.sc x && (match a with
    | none => decide (b ≠ 1) && decide (x = toS (xNm b)) && !(x == ("__debug__" : Str)) && (match y with | .Constant (.str _) _ _ => true | _ => false)
    | some e => decide (b = 1) && decide (x = ("NoValue" : Str)) && noStar y && chkE T e Γ y)
  | _ => false
theorem sw_false {X : Cx} {v : Expr} {t : Option Expr} {l : Nat} (h : noCmp v = true) : swapsWith v t l X.env = pure false := by
  cases v <;> first | rfl | cases h
theorem sws_false {X : Cx} {v t : Expr} {l : Nat} (h : noCmp v = true) : swapsWithSole [t] v l X.env = pure false := sw_false h
theorem swst_name {X : Cx} {v : Expr} {x : Str} {p : Pos} : swappedStores [.Name x p] v X.env = pure none := by
  cases v <;> rfl
/-- a def's own context -/
structure FcOk (c : Cn) (X : Cx) : Prop where
  own : PassesOwn (model X.prog X.w) X.A X.env X.xe
  stk : X.stack = X.env :: X.outer
  frm : X.env.frame = some X.env.locals
  tak : Takes X (fun cls d _ H => c.wish cls d H)
section
variable {T : Tb} {k W : Nat} {fr : Bool} {c : Cn} {Γ : Sta} {X : Cx}
theorem snd_rai {b : Nat} {a : Option E} {s : Stmt} (h : CxOk T c k Γ X) (hp : FcOk c X) (q : chkRai T b a Γ s = true) : PS X s (tSD c W Γ.M fr (.rai b a)) := by
  unfold chkRai at q
  split at q
  · rename_i x p y p2 p3
    simp only [Bool.and_eq_true] at q
    obtain ⟨⟨q1, q2⟩, q3⟩ := q
    have hb := List.contains_iff_mem.mp q1
    cases a with
    | none =>
      simp only [Bool.and_eq_true, decide_eq_true_eq, Bool.not_eq_true'] at q3
      obtain ⟨⟨⟨q4, q5⟩, q6⟩, q7⟩ := q3
      split at q7
      · exact ps_raiO h.hK h.hmg h.xr h.calm hp.tak hb q4 (h.xok b hb) q5 (h.glo q2) q6
      · cases q7
    | some e =>
      simp only [Bool.and_eq_true, decide_eq_true_eq] at q3
      obtain ⟨⟨⟨q4, q5⟩, q6⟩, q7⟩ := q3
      subst q4 q5
      exact ps_raiN h.hK h.hmg h.xr h.calm hp.tak h.room hb (h.xok 1 hb) (h.glo q2) (sndE e c Γ X y h q7) (star_of q6)
  · cases q
variable {a : Addr} {oe : Obj} {pn : List (Addr × Obj)} {cls : Value} {d : Option Addr} {x : Xc} {y : Option (Nat × List Nat)} {j : Nat}
theorem sndHa {e : Ha} {z : Expr} (h : CxOk T c k Γ X) (hy : Hyp T.xr x y cls d) (hz : Zc cls d oe) (hf : ∃ vs, oe.data = .fields vs) (q : chkHa T Γ j e z = true) :
    PE (X.suite a ((a, oe) :: pn)) z (tE (hcx c x a y) Γ.M (instA j e)) ∧ bor Γ.M (instA j e) = false ∧ NoStar (X.suite a ((a, oe) :: pn)) z := by
  rw [hy.c] at hz
  have hX := h.xok _ hy.m
  unfold chkHa at q
  split at q
  · rename_i i n p
    simp only [Bool.and_eq_true, Bool.not_eq_true'] at q
    obtain ⟨h1, h2, h3, h4⟩ := h.name q.1
    exact ⟨pe_varD (X := X.suite a ((a, oe) :: pn)) h1 h2 h3 h4, q.2, star_of rfl⟩
  · rename_i d' k' j' p
    exact ⟨pe_cstD q, rfl, star_of rfl⟩
  · rename_i b f p1 n p2 z' p3 p4
    simp only [Bool.and_eq_true, decide_eq_true_eq, Bool.not_eq_true', Bool.or_eq_true] at q
    obtain ⟨⟨⟨⟨⟨⟨q1, q2⟩, q3⟩, q4⟩, q5⟩, q6⟩, q7⟩ := q
    obtain ⟨e1, g1, m1⟩ := h.blt q1
    subst e1
    obtain ⟨h1, h2, h3, h4⟩ := h.name q2
    have hb := List.contains_iff_mem.mp q3
    refine ⟨pe_isX (c := c) (M := Γ.M) (ns := T.xn) (p := p1) (p1 := p2) (p2 := p3) (pos := p4) h.hK hX hz hf hy.d hb g1 m1 h1 h2 h3 h4 (h.glo q5) q7 ?_, rfl, star_of rfl⟩
    by_cases h6 : b = 6
    · rcases q6 with q6 | q6
      · exact absurd h6 q6
      · exact .inl ⟨h6, q6.2, h.bl _ q6.1⟩
    · exact .inr ⟨h6, by rw [q4]; exact h.xnm b hb h6⟩
  · rename_i n p f p1
    simp only [Bool.and_eq_true, decide_eq_true_eq] at q
    obtain ⟨q1, rfl⟩ := q
    obtain ⟨h1, h2, h3, h4⟩ := h.name q1
    exact ⟨pe_nmX (c := c) (M := Γ.M) (ns := T.xn) h.hK hX hz hf hy.d hy.s h1 h2 h3 h4, rfl, star_of rfl⟩
  · cases q
theorem sndHas (h : CxOk T c k Γ X) (hy : Hyp T.xr x y cls d) (hz : Zc cls d oe) (hf : ∃ vs, oe.data = .fields vs) : ∀ {es : List Ha} {zs : List Expr}, chkHas T Γ j es zs = true → Paired (fun z ce => PE (X.suite a ((a, oe) :: pn)) z (tE (hcx c x a y) Γ.M ce) ∧ bor Γ.M ce = false ∧ NoStar (X.suite a ((a, oe) :: pn)) z) zs (es.map (instA j))
  | [], [], _ => .nil
  | [], _ :: _, q => by simp [chkHas] at q
  | _ :: _, [], q => by simp [chkHas] at q
  | e :: r, z :: zs, q => by
    simp only [chkHas, Bool.and_eq_true] at q
    exact .cons (sndHa h hy hz hf q.1) (sndHas h hy hz hf q.2)
theorem paired_fst {α β : Type} {P Q : α → β → Prop} {xs : List α} {ys : List β} (h : Paired P xs ys) (i : ∀ a b, P a b → Q a b) : Paired Q xs ys := by
  induction h with
  | nil => exact .nil
  | cons r t ih => exact .cons (i _ _ r) ih
theorem sndHe {e : He} {z : Expr} (h : CxOk T c k Γ X) (hy : Hyp T.xr x y cls d) (hz : Zc cls d oe) (hf : ∃ vs, oe.data = .fields vs) (q : chkHe T Γ j e z = true) :
    PE (X.suite a ((a, oe) :: pn)) z (tE (hcx c x a y) Γ.M (instE j e)) ∧ bor Γ.M (instE j e) = false := by
  unfold chkHe at q
  split at q
  · obtain ⟨h1, h2, _⟩ := sndHa (a := a) (pn := pn) h hy hz hf q
    exact ⟨h1, h2⟩
  · rename_i bs xs p
    simp only [Bool.and_eq_true, Bool.not_eq_true'] at q
    have pa := sndHas (a := a) (pn := pn) h hy hz hf q.2
    rw [List.map_map] at pa
    refine ⟨pe_orD (fun z => by rw [z] at q; cases q.1) (paired_fst pa fun _ _ z => z.1), rfl⟩
  · rename_i hs xs n p
    simp only [Bool.and_eq_true, decide_eq_true_eq] at q
    have pa := sndHas (a := a) (pn := pn) h hy hz hf q.2
    exact ⟨pe_tupD (pa_D pa) (by rw [List.length_map]; exact q.1), rfl⟩
  · cases q
theorem sndHasg {i : Nat} {e : He} {z : Expr} {n : Str} {p pos : Pos} (h : CxOk T c k Γ X) (hy : Hyp T.xr x y cls d) (hz : Zc cls d oe) (hf : ∃ vs, oe.data = .fields vs) (hM : Γ.M.contains i = false) (q : (chkS Γ i n && noCmp z && chkHe T Γ j e z) = true) :
    PS (X.suite a ((a, oe) :: pn)) (.Assign [.Name n p] z pos) (tSD (hcx c x a y) W Γ.M fr (.asg i (instE j e))) := by
  simp only [Bool.and_eq_true] at q
  obtain ⟨⟨q1, q2⟩, q3⟩ := q
  obtain ⟨h1, h2, h3⟩ := h.slot q1
  obtain ⟨e1, e2⟩ := sndHe (a := a) (pn := pn) h hy hz hf q3
  have nd : X.N.Nodup := by rw [h.hN]; exact h.nd
  exact ps_asgD (X := X.suite a ((a, oe) :: pn)) e1 nd h1 h2 h3 e2 (fun z => by rw [hM] at z; cases z) (sws_false (X := X.suite a ((a, oe) :: pn)) q2) (swst_name (X := X.suite a ((a, oe) :: pn)))
theorem sndHs {s : Hs} {z : Stmt} (h : CxOk T c k Γ X) (hy : Hyp T.xr x y cls d) (hz : Zc cls d oe) (hf : ∃ vs, oe.data = .fields vs) (hn : noJH j Γ.M s = true) (q : chkHs T Γ j s z = true) :
    PS (X.suite a ((a, oe) :: pn)) z (tSD (hcx c x a y) W Γ.M fr (instH j s)) := by
  unfold chkHs at q
  split at q
  · simp only [noJH, Bool.and_eq_true, Bool.not_eq_true'] at hn
    exact sndHasg h hy hz hf hn.1.2 q
  · rename_i l r i e w o u p n p2 v p3 p4
    simp only [noJH, Bool.and_eq_true, Bool.not_eq_true'] at hn
    rw [Bool.and_eq_true] at q
    obtain ⟨q, q9⟩ := q
    simp only [Bool.and_eq_true, decide_eq_true_eq, Bool.not_eq_true'] at q
    obtain ⟨⟨⟨q1, rfl⟩, q3⟩, q4⟩ := q
    obtain ⟨a1, a2, a3⟩ := sndHa (a := a) (pn := pn) (e := .var l) h hy hz hf q1
    obtain ⟨b1, b2⟩ := sndHe (a := a) (pn := pn) h hy hz hf q4
    have ho : OpR (X.suite a ((a, oe) :: pn)) (compareOp .Eq) (rB2 (hcx c x a y).K (cmD .eq)) := by
      have z := op_eqDD (X := X.suite a ((a, oe) :: pn)) h.u64
      have e : (hcx c x a y).K = (X.suite a ((a, oe) :: pn)).K := h.hK.symm
      rw [e]
      exact z
    exact ps_iteD (pt_cmpD ho a1 b1 q3) (pss_consD (sndHasg h hy hz hf hn.2.1.2 q9) pss_nilD) pss_nilD
  · cases q
theorem sndHss (h : CxOk T c k Γ X) (hy : Hyp T.xr x y cls d) (hz : Zc cls d oe) (hf : ∃ vs, oe.data = .fields vs) : ∀ {ss : List Hs} {zs : List Stmt}, ss.all (noJH j Γ.M) = true → chkHss T Γ j ss zs = true → PSs (X.suite a ((a, oe) :: pn)) zs (tSsD (hcx c x a y) W Γ.M fr (ss.map (instH j)))
  | [], [], _, _ => pss_nilD
  | [], _ :: _, _, q => by simp [chkHss] at q
  | _ :: _, [], _, q => by simp [chkHss] at q
  | s :: r, z :: zs, hn, q => by
    simp only [chkHss, Bool.and_eq_true] at q
    simp only [List.all_cons, Bool.and_eq_true] at hn
    exact pss_consD (sndHs h hy hz hf hn.1 q.1) (sndHss h hy hz hf hn.2 q.2)
theorem snd_tryA {i f : Nat} {es : List E} {j : Nat} {hs : List Hs} {s : Stmt} (h : CxOk T c k Γ X) (hp : FcOk c X) (q : chkTry T i f es j hs Γ s = true) : PS X s (tSD c W Γ.M fr (.tryA i f es j hs)) := by
  unfold chkTry at q
  split at q
  · rename_i xi p1 xf p2 e0 xs p3 p4 te np nj b0 su pos' pos
    rw [Bool.and_eq_true] at q
    obtain ⟨q0, q⟩ := q
    simp only [Bool.and_eq_true, decide_eq_true_eq, Bool.not_eq_true'] at q
    obtain ⟨⟨⟨⟨⟨⟨⟨⟨⟨⟨⟨q1, q2⟩, q3⟩, q4⟩, q5⟩, q6⟩, q7⟩, q8⟩, q9⟩, q10⟩, q11⟩, q12⟩ := q
    cases hf : T.fn f with
    | none => rw [hf] at q0; cases q0
    | some fn =>
      rw [hf] at q0
      simp only [Bool.and_eq_true, decide_eq_true_eq] at q0
      obtain ⟨rfl, hl⟩ := q0
      obtain ⟨h1, h2, h3⟩ := h.slot q1
      obtain ⟨g1, g2, g3, g4⟩ := h.name q9
      have nd : X.N.Nodup := by rw [h.hN]; exact h.nd
      have hln : X.env.kindOf nj = some .local := by
        show X.env.scope.names.lookup nj = some .local
        rw [h.sc]
        unfold lB at q10
        split at q10
        · assumption
        · cases q10
      have hn : ∀ pn xe, CxOk T c.q k Γ (X.tr pn xe) := fun pn xe => { hK := h.hK, hP := h.hP, hw := h.hw, hmg := h.hmg, hN := h.hN, nd := h.nd, sc := h.sc, calm := h.calm, room := h.room, pass := passL, fn := h.fn, bl := h.bl, gl := h.gl, fns := fun f fn e => ⟨(h.fns f fn e).at_, (h.fns f fn e).db⟩, frf := h.frf, fad := h.fad, dom := h.dom, no9 := h.no9, cl := h.cl, cw := h.cw, tak := h.tak, chl := h.chl, chd := h.chd, mkr := h.mkr, xr := h.xr, xok := h.xok, xnm := h.xnm, x0 := h.x0 }
      have hx0 : T.xr ≠ [] := fun z => by rw [z] at q11; cases q11
      have pa := sndA es c Γ X (e0 :: xs) h q6
      have hst : NoStar X e0 := by
        cases pa with
        | cons q t => exact q.2.2
      have hpl : (backTo p3 (starEach xs X.env)).any (·.1) = false := by
        cases pa with
        | cons q t => exact star_rest t
      exact ps_tryD (m := 0) (L := T.xr) (ns := T.xn) h.hK hp.stk hp.frm nd g1 hln ⟨h.glo q8, by rw [q7]; decide +kernel, .inl (by rw [q7]; exact h.x0 hx0)⟩ h1 h2 h3 q2 q3 q4 (h.fns f fn hf) h.room (h.glo q5) hl h.xr h.xok (fun pn xe => pa_D (sndA es c.q Γ (X.tr pn xe) (e0 :: xs) (hn pn xe) q6)) hst hpl
        (fun a oe pn cls d x y hy hz hf => sndHss h hy hz hf q4 q12)
  · cases q
end
end MT
end
section
set_option Elab.async false
set_option linter.all false
set_option maxRecDepth 100000
set_option maxHeartbeats 8000000
/-! MtQ: what the text does is what the small language does: statements, defs. -/
namespace MT
open PySem PySem.Spec L2
variable [Pw]
/-- a store of a comprehension: straight into the name, or not -/
def swB (Γ : Sta) (x : Str) (p : Pos) : Expr → Bool
  | .ListComp _ _ scope vp => lB Γ.sc x && (p.line == vp.line) && !(scope.names.any fun (n, k) => n == x && (k == .local || k == .cell))
  | _ => false
def cellB (sc : Scope) (x : Str) : Bool := match sc.names.lookup x with
  | some .cell => true
  | _ => false
def asgB (Γ : Sta) (x : Str) (p : Pos) (v : Expr) : Bool := noCmp v || (match v with | .ListComp _ _ _ _ => cellB Γ.sc x | _ => false) || swB Γ x p v
def hAsg (T : Tb) (i : Nat) (e : E) (Γ : Sta) : Stmt → Bool
  | .Assign [.Name x p] v _ => chkS Γ i x && !bor Γ.M e && (!Γ.M.contains i || fresh (frT T) e) && chkE T e Γ v && asgB Γ x p v
  | _ => false
def isLC : Expr → Bool
  | .ListComp _ _ _ _ => true
  | _ => false
def hAsgT (T : Tb) (is : List Nat) (e : E) (Γ : Sta) : Stmt → Bool
  | .Assign [.Tuple es _ _] v _ => tgOk Γ is es && !bor Γ.M e && noTup v && (noCmp v || isLC v) && chkE T e Γ v
  | _ => false
/-- a, b = x, y -/
def hPar (T : Tb) (is : List Nat) (es : List E) (Γ : Sta) : Stmt → Bool
  | .Assign [.Tuple [.Name x px, .Name y py] _ _] (.Tuple [a, b] _ _) _ => (match is with
      | [i, j] => chkS Γ i x && chkS Γ j y && decide (i ≠ j) && lB Γ.sc x && lB Γ.sc y && !Γ.M.contains i && !Γ.M.contains j && (py.line == px.line) && decide (x ≠ y) && noStar a && noStar b && !([a, b].all (foldedForSure 8)) && !([a, b].all (constantsAlone 8)) && chkA T es Γ [a, b]
      | _ => false)
  | .Assign [.Tuple [.Name x px, .Name y py, .Name z pz] _ _] (.Tuple [a, b, d] _ _) _ => (match is with
      | [i, j, l] => chkS Γ i x && chkS Γ j y && chkS Γ l z && decide (i ≠ j) && decide (i ≠ l) && decide (j ≠ l) && lB Γ.sc x && lB Γ.sc y && lB Γ.sc z && !Γ.M.contains i && !Γ.M.contains j && !Γ.M.contains l && (py.line == px.line) && (pz.line == px.line) && decide (x ≠ y) && decide (x ≠ z) && decide (y ≠ z)
          && noStar a && noStar b && noStar d && !([a, b, d].all (foldedForSure 8)) && !([a, b, d].all (constantsAlone 8)) && chkA T es Γ [a, b, d]
      | _ => false)
  | _ => false
def hApp (T : Tb) (m : Str) (i : Nat) (e : E) (Γ : Sta) : Stmt → Bool
  | .Expr (.Call (.Attribute (.Name x _) n ap) [y] [] cp) _ => chkN Γ i x && decide (n = m) && Γ.M.contains i && !bor Γ.M e && noStar y && (ap.endLine == cp.line) && chkE T e Γ y
  | _ => false
def hPut (T : Tb) (i : Nat) (k e : E) (Γ : Sta) : Stmt → Bool
  | .Assign [.Subscript (.Name x _) y _] v _ => chkN Γ i x && Γ.M.contains i && !bor Γ.M e && noCmp v && chkE T k Γ y && chkE T e Γ v && !bor Γ.M k
  | _ => false
def hPop (T : Tb) (i : Nat) (k : E) (Γ : Sta) : Stmt → Bool
  | .Expr (.Call (.Attribute (.Name x _) n ap) [y, .Constant .none _ _] [] cp) _ => chkN Γ i x && decide (n = ("pop" : Str)) && Γ.M.contains i && noStar y && (ap.endLine == cp.line) && chkE T k Γ y
  | _ => false
def hMvk (T : Tb) (i : Nat) (k1 k2 : E) (Γ : Sta) : Stmt → Bool
  | .Assign [.Subscript (.Name x _) (.Name y _) _] (.Call (.Attribute (.Name x' _) n ap) [z] [] cp) _ => match k1 with
    | .var j => chkN Γ i x && decide (n = ("pop" : Str)) && decide (x' = x) && chkN Γ j y && Γ.M.contains i && noStar z && (ap.endLine == cp.line) && chkE T k2 Γ z
    | _ => false
  | _ => false
def hRet (T : Tb) (fr : Bool) (e : E) (Γ : Sta) : Stmt → Bool
  | .Return (some v) _ => if bor Γ.M e then chkE T e Γ v else (!fr || fresh (frT T) e) && chkE T e Γ v
  | _ => false
/-- an inner def, handed to a def at once -/
def chkRC (T : Tb) (g : Nat) (e : E) (c : Nat) (js : List Nat) (i : Nat) (Γ : Sta) : Stmt → Stmt → Bool
  | .FunctionDef n params body [] none [] scope none n' pos, .Return (some (.Call (.Name x _) [y, .Name z _] [] _)) _ => (match T.fn g with | some fn => decide (x = toS fn.name) && decide (2 = fn.ps) | none => false) && glB Γ.sc x && chkE T e Γ y && !bor Γ.M e && noStar y && decide (n' = n) && decide (z = n) &&
      chkN Γ i n && locB Γ.sc n && !Γ.M.contains i && (match Γ.mkr with | some m => decide (toS m = n) | none => false) && T.chd c Γ.sc (.FunctionDef n params body [] none [] scope none n pos) && decide (js.map (fun j => Γ.N[j]?) = (T.cli c).2.map some)
  | _, _ => false
def rcOf : Sm → List Sm → List Stmt → Option (Nat × E × Nat × List Nat × Nat × Stmt)
  | .retC g e c js i, [], [b] => some (g, e, c, js, i, b)
  | _, _, _ => none
theorem rcOf_inv {s : Sm} {r : List Sm} {q : List Stmt} {p : Nat × E × Nat × List Nat × Nat × Stmt} (h : rcOf s r q = some p) : s = .retC p.1 p.2.1 p.2.2.1 p.2.2.2.1 p.2.2.2.2.1 ∧ r = [] ∧ q = [p.2.2.2.2.2] := by
  unfold rcOf at h
  split at h
  · cases h; exact ⟨rfl, rfl, rfl⟩
  · cases h
mutual
def chkSm (T : Tb) (fr : Bool) : Sm → Sta → Stmt → Bool
  | .asg i e, Γ, s => hAsg T i e Γ s
  | .asgT is e, Γ, s => hAsgT T is e Γ s
  | .asgP is es, Γ, s => hPar T is es Γ s
  | .app i e, Γ, s => hApp T "append" i e Γ s
  | .ext i e, Γ, s => hApp T "extend" i e Γ s
  | .put i k e, Γ, s => hPut T i k e Γ s
  | .pop i k, Γ, s => hPop T i k Γ s
  | .mvk i k1 k2, Γ, s => hMvk T i k1 k2 Γ s
  | .ret e, Γ, s => hRet T fr e Γ s
  | .ite t a b, Γ, .If u xs ys _ => chkQ T t Γ u && chkSs T fr a Γ xs && chkSs T fr b Γ ys
  | .for_ tg it b, Γ, .For te ie xs [] _ => chkI T it Γ ie (isTupE te) && !borI Γ.M it && noSet ie && chkT Γ tg te && chkSs T fr b Γ xs
  | .whl t b, Γ, .While u xs [] _ => chkQ T t Γ u && chkSs T fr b Γ xs
  | .forP tg i b, Γ, .For te (.Call (.Attribute (.Name x _) n ap) [] [] cp) xs [] _ => chkN Γ i x && decide (n = ("pop" : Str)) && Γ.M.contains i && (ap.endLine == cp.line) && chkT Γ tg te && chkSs T fr b Γ xs
  | .bad, _, _ => true
  | .tryT b, Γ, .Try xs (_ :: _) [] [] _ => chkSs T fr b Γ xs
  | .rai b a, Γ, s => chkRai T b a Γ s
  | .tryA i f es j hs, Γ, s => chkTry T i f es j hs Γ s
  | _, _, _ => false
def chkSs (T : Tb) (fr : Bool) : List Sm → Sta → List Stmt → Bool
  | [], _, [] => true
  | s :: r, Γ, x :: q => match rcOf s r q with
    | some p => chkRC T p.1 p.2.1 p.2.2.1 p.2.2.2.1 p.2.2.2.2.1 Γ x p.2.2.2.2.2
    | none => chkSm T fr s Γ x && chkSs T fr r Γ q
  | _, _, _ => false
end
theorem swst_tup {X : Cx} {v : Expr} {es : List Expr} {k : Nat} {p : Pos} (h : noTup v = true) : swappedStores [.Tuple es k p] v X.env = pure none := by
  cases v <;> first | rfl | cases h
theorem sws_tup {X : Cx} {v : Expr} {es : List Expr} {k l : Nat} {p : Pos} (h : (noCmp v || isLC v) = true) : swapsWithSole [.Tuple es k p] v l X.env = pure false := by
  rw [Bool.or_eq_true] at h
  rcases h with h | h
  · exact sws_false h
  · cases v with
    | ListComp y gs scope vp => rfl
    | _ => cases h
theorem sws_cell {X : Cx} {y : Expr} {gs : List Comprehension} {scope : Scope} {vp p : Pos} {x : Str} {l : Nat} (h : X.env.scope.names.lookup x = some .cell) : swapsWithSole [.Name x p] (.ListComp y gs scope vp) l X.env = pure false := by
  have ky : X.env.kindOf x = some .cell := h
  unfold swapsWithSole swapsWith
  simp only [ky]
  have : ((some NameKind.cell : Option NameKind) == some .local) = false := by decide
  simp only [this, Bool.and_false, Bool.false_and]
theorem nodup2 {x y : Str} (hn : x ≠ y) : ([x, y].eraseDups).length = 2 := by
  have h1 : (y == x) = false := beq_eq_false_iff_ne.mpr (Ne.symm hn)
  simp [List.eraseDups_cons, h1]
theorem nodup3 {x y z : Str} (h1 : x ≠ y) (h2 : x ≠ z) (h3 : y ≠ z) : ([x, y, z].eraseDups).length = 3 := by
  have a : (y == x) = false := beq_eq_false_iff_ne.mpr (Ne.symm h1)
  have b : (z == x) = false := beq_eq_false_iff_ne.mpr (Ne.symm h2)
  have c : (z == y) = false := beq_eq_false_iff_ne.mpr (Ne.symm h3)
  simp [List.eraseDups_cons, a, b, c]
theorem par2_sw {X : Cx} {x y : Str} {px py pt pt2 : Pos} {kt k2 : Nat} {a b : Expr} (hk : X.env.scope.kind = .function) (hx : X.env.scope.names.lookup x = some .local) (hy : X.env.scope.names.lookup y = some .local) (hl : (py.line == px.line) = true) (hn : x ≠ y) (sa : noStar a = true) (sb : noStar b = true)
    (f1 : [a, b].all (foldedForSure 8) = false) (f2 : [a, b].all (constantsAlone 8) = false) : swappedStores [.Tuple [.Name x px, .Name y py] kt pt] (.Tuple [a, b] k2 pt2) X.env = pure (some [x, y]) := by
  have kx : X.env.kindOf x = some .local := hx
  have ky : X.env.kindOf y = some .local := hy
  have bk : X.env.blockKind = .function := by unfold Env.blockKind; rw [hk]; rfl
  have lx : (px.line == px.line) = true := beq_self_eq_true _
  unfold swappedStores
  simp only [bk]
  refine (if_neg (by simp)).trans ((if_neg ?_).trans ?_)
  · simp only [List.any_cons, List.any_nil, Bool.or_false, Bool.or_eq_true, not_or]
    exact ⟨(by cases a <;> first | exact Bool.false_ne_true | (cases sa)), (by cases b <;> first | exact Bool.false_ne_true | (cases sb))⟩
  · simp only [List.filterMap_cons, List.filterMap_nil, kx, ky, List.head?_cons, Option.map_some, Option.getD_some, Expr.pos, hl, lx, beq_self_eq_true, Bool.true_and, if_true, nodup2 hn, f1, f2]
    rfl
theorem par3_sw {X : Cx} {x y z : Str} {px py pz pt pt2 : Pos} {kt k2 : Nat} {a b d : Expr} (hk : X.env.scope.kind = .function) (hx : X.env.scope.names.lookup x = some .local) (hy : X.env.scope.names.lookup y = some .local) (hz : X.env.scope.names.lookup z = some .local) (hl : (py.line == px.line) = true) (hl2 : (pz.line == px.line) = true) (n1 : x ≠ y) (n2 : x ≠ z) (n3 : y ≠ z)
    (sa : noStar a = true) (sb : noStar b = true) (sd : noStar d = true) (f1 : [a, b, d].all (foldedForSure 8) = false) (f2 : [a, b, d].all (constantsAlone 8) = false) : swappedStores [.Tuple [.Name x px, .Name y py, .Name z pz] kt pt] (.Tuple [a, b, d] k2 pt2) X.env = pure (some [x, y, z]) := by
  have kx : X.env.kindOf x = some .local := hx
  have ky : X.env.kindOf y = some .local := hy
  have kz : X.env.kindOf z = some .local := hz
  have bk : X.env.blockKind = .function := by unfold Env.blockKind; rw [hk]; rfl
  have lx : (px.line == px.line) = true := beq_self_eq_true _
  unfold swappedStores
  simp only [bk]
  refine (if_neg (by simp)).trans ((if_neg ?_).trans ?_)
  · simp only [List.any_cons, List.any_nil, Bool.or_false, Bool.or_eq_true, not_or]
    exact ⟨(by cases a <;> first | exact Bool.false_ne_true | (cases sa)), (by cases b <;> first | exact Bool.false_ne_true | (cases sb)), (by cases d <;> first | exact Bool.false_ne_true | (cases sd))⟩
  · simp only [List.filterMap_cons, List.filterMap_nil, kx, ky, kz, List.head?_cons, Option.map_some, Option.getD_some, Expr.pos, hl, hl2, lx, beq_self_eq_true, Bool.true_and, if_true, nodup3 n1 n2 n3, f1, f2]
    rfl
section
variable {T : Tb} {k W : Nat} {fr : Bool}
/-- y = [..], straight into the name -/
theorem snd_setLc {c : Cn} {Γ : Sta} {X : Cx} {i : Nat} {n : Str} {p spos : Pos} {v : Expr} {e : E} (h : CxOk T c k Γ X) (hk : Γ.sc.kind = .function) (hs : chkS Γ i n = true) (hb : bor Γ.M e = false) (hf : Γ.M.contains i = true → fresh c.frf e = true) (he : chkE T e Γ v = true) (hw : swB Γ n p v = true) :
    PS X (.Assign [.Name n p] v spos) (tSD c W Γ.M fr (.asg i e)) := by
  cases v with
  | ListComp y gs scope vp =>
    cases e with
    | lc own tg it ifs el =>
      match gs, he with
      | [⟨te, ie, fs, ay⟩], e =>
        simp only [chkE, Bool.and_eq_true, decide_eq_true_eq] at e
        obtain ⟨⟨⟨⟨⟨⟨⟨⟨⟨rfl, e1⟩, e2⟩, e3⟩, e4⟩, e5⟩, e6⟩, e7⟩, e8⟩, e9⟩ := e
        unfold swB at hw
        simp only [Bool.and_eq_true] at hw
        obtain ⟨⟨w1, w2⟩, w3⟩ := hw
        have hM : ∀ i ∈ own, Γ.M.contains i = false := fun i hi => not1 (List.all_eq_true.mp e4 i hi)
        have htg : tgIn tg own := by
          cases tg with
          | one i => exact List.contains_iff_mem.mp e5
          | tup is => exact fun i hi => List.contains_iff_mem.mp (List.all_eq_true.mp e5 i hi)
        have hown : (ownOf Γ.N own).map (·.2) = own := by
          unfold ownOf
          rw [List.map_map]
          show own.map (fun i => i) = own
          simp
        have nd : X.N.Nodup := by rw [h.hN]; exact h.nd
        obtain ⟨h1, h2, h3⟩ := h.slot hs
        have hl : X.env.scope.names.lookup n = some .local := by rw [h.sc]; exact lcl_of w1
        have pl := ps_setLc (i := i) (py := p) (spos := spos) (pos := vp) (own := ownOf Γ.N own) h.calm nd h1 hl (sw_true (by rw [h.sc]; exact hk) hl w2 (not1 w3)) (sndI it c Γ X ie te h e1) (by rw [h.hN, h.sc]; exact blkOk_by e3)
          (fun s H C cl fp => (h.blk (scope := scope) s H C cl fp).tgt e6) (fun s H C cl fp => sndF ifs c.q _ _ fs (h.blk (scope := scope) s H C cl fp) e7) (fun s H C cl fp => sndE el c.q _ _ y (h.blk (scope := scope) s H C cl fp) e8) (set_of e2)
        rw [hown] at pl
        refine ⟨fun pins s σ H D I q => pl.run pins s σ H D I ?_⟩
        have hlen : σ.length = X.N.length := I.len
        exact lc_D (not1 e9) hM htg (okTI_of e1 e6) (asg_fin hb hf (fun z _ => by rw [← z, hlen]; exact (List.getElem?_eq_some_iff.mp h1).1) q)
      | [], e => simp [chkE] at e
      | _ :: _ :: _, e => simp [chkE] at e
    | u1 u a => simp [chkE, u1Ok] at he
    | u2 u a b => cases u <;> simp [chkE, u2Ok] at he
    | _ => simp [chkE] at he
  | _ => cases hw
section
variable {c : Cn} {Γ : Sta} {X : Cx} {x : Stmt}
theorem snd_asg {i : Nat} {e : E} (h : CxOk T c k Γ X) (hk : Γ.sc.kind = .function) (q : hAsg T i e Γ x = true) : PS X x (tSD c W Γ.M fr (.asg i e)) := by
  unfold hAsg at q
  split at q
  · rename_i n p v spos
    simp only [Bool.and_eq_true] at q
    obtain ⟨⟨⟨⟨q1, q2⟩, q3⟩, q4⟩, q5⟩ := q
    have hf : Γ.M.contains i = true → fresh c.frf e = true := fun z => by
      rw [z, h.frf.symm] at q3
      simpa using q3
    obtain ⟨h1, h2, h3⟩ := h.slot q1
    have nd : X.N.Nodup := by rw [h.hN]; exact h.nd
    unfold asgB at q5
    rw [Bool.or_eq_true, Bool.or_eq_true] at q5
    rcases q5 with (q5 | q5) | q5
    · exact ps_asgD (sndE e c Γ X v h q4) nd h1 h2 h3 (not1 q2) hf (sws_false q5) swst_name
    · cases v with
      | ListComp y gs scope vp =>
        have hc : X.env.scope.names.lookup n = some .cell := by
          rw [h.sc]
          have q6 : cellB Γ.sc n = true := q5
          unfold cellB at q6
          split at q6
          · assumption
          · cases q6
        exact ps_asgD (sndE e c Γ X _ h q4) nd h1 h2 h3 (not1 q2) hf (sws_cell hc) swst_name
      | _ => cases q5
    · exact snd_setLc h hk q1 (not1 q2) hf q4 q5
  · cases q
theorem snd_asgT {is : List Nat} {e : E} (h : CxOk T c k Γ X) (q : hAsgT T is e Γ x = true) : PS X x (tSD c W Γ.M fr (.asgT is e)) := by
  unfold hAsgT at q
  split at q
  · simp only [Bool.and_eq_true] at q
    obtain ⟨⟨⟨⟨q1, q2⟩, q3⟩, q4⟩, q5⟩ := q
    have nd : X.N.Nodup := by rw [h.hN]; exact h.nd
    exact ps_asgTD h.hK h.calm nd (sndE e c Γ X _ h q5) (not1 q2) (h.tgs q1) (sws_tup q4) (swst_tup q3)
  · cases q
theorem snd_par {is : List Nat} {es : List E} (h : CxOk T c k Γ X) (hk : Γ.sc.kind = .function) (q : hPar T is es Γ x = true) : PS X x (tSD c W Γ.M fr (.asgP is es)) := by
  have nd : X.N.Nodup := by rw [h.hN]; exact h.nd
  have hk' : X.env.scope.kind = .function := by rw [h.sc]; exact hk
  unfold hPar at q
  split at q
  · split at q
    · simp only [Bool.and_eq_true, decide_eq_true_eq, Bool.not_eq_true'] at q
      obtain ⟨⟨⟨⟨⟨⟨⟨⟨⟨⟨⟨⟨⟨q1, q2⟩, q3⟩, q4⟩, q5⟩, q6⟩, q7⟩, q8⟩, q9⟩, q10⟩, q11⟩, q12⟩, q13⟩, q14⟩ := q
      have lx := lcl_of q4
      have ly := lcl_of q5
      rw [← h.sc] at lx ly
      exact ps_parD h.calm nd (h.slot q1).1 (h.slot q2).1 q3 lx ly q6 q7 (pa_D (sndA es c Γ X _ h q14)) (par2_sw hk' lx ly q8 q9 q10 q11 q12 q13)
    · cases q
  · split at q
    · simp only [Bool.and_eq_true, decide_eq_true_eq, Bool.not_eq_true'] at q
      obtain ⟨⟨⟨⟨⟨⟨⟨⟨⟨⟨⟨⟨⟨⟨⟨⟨⟨⟨⟨⟨⟨⟨q1, q2⟩, q3⟩, q4⟩, q5⟩, q6⟩, q7⟩, q8⟩, q9⟩, q10⟩, q11⟩, q12⟩, q13⟩, q14⟩, q15⟩, q16⟩, q17⟩, q18⟩, q19⟩, q20⟩, q21⟩, q22⟩, q23⟩ := q
      have lx := lcl_of q7
      have ly := lcl_of q8
      have lz := lcl_of q9
      rw [← h.sc] at lx ly lz
      exact ps_par3D h.calm nd (h.slot q1).1 (h.slot q2).1 (h.slot q3).1 q4 q5 q6 lx ly lz q10 q11 q12 (pa_D (sndA es c Γ X _ h q23)) (par3_sw hk' lx ly lz q13 q14 q15 q16 q17 q18 q19 q20 q21 q22)
    · cases q
  · cases q
theorem snd_app {i : Nat} {e : E} (h : CxOk T c k Γ X) (q : hApp T "append" i e Γ x = true) : PS X x (tSD c W Γ.M fr (.app i e)) := by
  unfold hApp at q
  split at q
  · simp only [Bool.and_eq_true, decide_eq_true_eq] at q
    obtain ⟨⟨⟨⟨⟨⟨q1, rfl⟩, q3⟩, q4⟩, q5⟩, q6⟩, q7⟩ := q
    obtain ⟨h1, h2, h3, h4⟩ := h.name q1
    exact ps_appD (sndE e c Γ X _ h q7) h1 h2 h3 h4 q3 (not1 q4) (star_of q5) q6
  · cases q
theorem snd_ext {i : Nat} {e : E} (h : CxOk T c k Γ X) (q : hApp T "extend" i e Γ x = true) : PS X x (tSD c W Γ.M fr (.ext i e)) := by
  unfold hApp at q
  split at q
  · simp only [Bool.and_eq_true, decide_eq_true_eq] at q
    obtain ⟨⟨⟨⟨⟨⟨q1, rfl⟩, q3⟩, q4⟩, q5⟩, q6⟩, q7⟩ := q
    obtain ⟨h1, h2, h3, h4⟩ := h.name q1
    exact ps_extD h.hK (sndE e c Γ X _ h q7) h1 h2 h3 h4 q3 (not1 q4) (star_of q5) q6
  · cases q
/-- x[k] = x.pop(e) -/
theorem ps_mvkD {c : Cn} {W : Nat} {M : List Nat} {fr : Bool} {X : Cx} {pos : Pos} {k : Expr} {ck : E} {i j : Nat} {x y : Str} {p p1 p2 p4 apos cpos : Pos} (hu : X.A.units + 1 < cLine) (hk : PE X k (tE c M ck)) (hN : X.N[i]? = some x) (hv : Vis X.env.scope x) (hd : (x == ("__debug__" : Str)) = false) (hcd : (x == ("__classdict__" : Str)) = false)
    (hN' : X.N[j]? = some y) (hv' : Vis X.env.scope y) (hd' : (y == ("__debug__" : Str)) = false) (hcd' : (y == ("__classdict__" : Str)) = false) (hM : M.contains i = true) (hs : NoStar X k) (hl : (apos.endLine == cpos.line) = true) :
    PS X (.Assign [.Subscript (.Name x p) (.Name y p1) p2] (.Call (.Attribute (.Name x p4) "pop" apos) [k] [] cpos) pos) (tSD c W M fr (.mvk i (.var j) ck)) := by
  have m1 : M1 X (.Name x p4) "pop" apos k cpos := ⟨rfl, by rw [hs []]; rfl, hl, by rw [hs []]; rfl⟩
  refine (ps_dput hu (pe_var hN hv hd hcd) (pe_var hN' hv' hd' hcd') (pe_dpop1 (pe_var hN hv hd hcd) hk m1) rfl).imp fun N σ H ⟨H0, Oc, Ts, ρ, ho, env, r⟩ => ?_
  simp only [ex] at r
  cases q : ρ.getD i none with
  | none => rw [q] at r; exact r.elim
  | some d0 =>
    rw [q] at r
    cases d0 with
    | dk ks vs =>
      obtain ⟨a, e1, rb, hm, h0, hoc⟩ := own_at ho env hM (getD_some q)
      obtain ⟨b, kvs, e2, sq, em, hlen, hok, nd, rr⟩ := rb
      cases e2
      refine ⟨_, e1, a, rfl, .inl ⟨kvs, .inl sq⟩, tE_step env.base env r fun z H1 dk s1 vk env1 r1 => ?_⟩
      simp only [ev] at r1
      obtain ⟨dj, ej, r2⟩ := (Run.bind.mp r1).nx (NX.ofO _)
      obtain ⟨vj, es, g1, g2⟩ := env1.val j dj (getD_some (ofO_ok ej))
      have rbj : Rb c.K H1 (Ow Oc M σ) dj vj := by
        cases hz : M.contains j with
        | true => exact (g2 hz).1
        | false => exact (g1 hz).b
      cases hky : dk.ky with
      | none => rw [hky] at r2; exact r2.elim
      | some ky =>
        cases hkj : dj.ky with
        | none => rw [hky, hkj] at r2; exact r2.elim
        | some kj =>
          rw [hky, hkj] at r2
          dsimp only at r2
          obtain ⟨ez, okz⟩ := kyD_of vk.rb hky
          obtain ⟨ezj, okj⟩ := kyD_of rbj hkj
          have sq1 := s1 _ _ sq
          have rr1 := Rps.step (Stp.same (O := Ow Oc M σ) s1) _ _ rr
          rcases look_val ky em rr1 with ⟨l1, l2⟩ | ⟨d, v, l1, l2, rd⟩
          · rw [l1] at r2; exact r2.elim
          · rw [l1] at r2
            dsimp only at r2
            split at r2
            · rename_i hlt
              obtain ⟨g1, g2, g3, g4, g5⟩ := del_rep ky em rr1 nd
              obtain ⟨i1, i2, i3, i4, i5⟩ := put_rep kj rd g1 g2 g3
              have hkl : (L2.dropK kvs (kyV ky)).length = (delK ky ks vs).1.length := by have := congrArg List.length g1; simpa using this
              refine ⟨kvs, kyV ky, v, sq1, ez, l2, _, e1, vj, es, a, _, rfl, by rw [ezj]; exact DPut.k upd_same (by rw [hkl, ← lim_eq]; omega), ?_⟩
              have hO : Ow Oc M σ a := .inr ⟨i, hM, e1⟩
              have eu : upd (upd H1 a (.dK (L2.dropK kvs (kyV ky)))) a (.dK (L2.putK (L2.dropK kvs (kyV ky)) (kyV kj) v)) = upd H1 a (.dK (L2.putK (L2.dropK kvs (kyV ky)) (kyV kj) v)) := by
                funext b
                by_cases hb : b = a
                · rw [hb, upd_same, upd_same]
                · rw [upd_ne hb, upd_ne hb, upd_ne hb]
              rw [eu]
              refine r2 σ _ (env1.chg hM (getD_some q) e1 (fun ys z => by rw [sq1] at z; cases z) (fun o u z => by rw [sq1] at z; cases z) hoc rfl ?_)
              refine ⟨a, _, rfl, upd_same, i1, by omega, fun z hz => (i5 z hz).elim (fun w => hok z (g5 z w)) (fun w => by rw [w]; exact okj), i3, Rps.step (?_ : Stp (Ow Oc M σ) (Ow Oc M σ) H1 _) _ _ i2⟩
              exact ⟨fun b x e n _ => by rw [upd_ne (fun q => n (by rw [q]; exact hO))]; exact e, fun b xs e => by rw [upd_ne (fun q => by rw [q, sq1] at e; cases e)]; exact e, fun b ob u e => by rw [upd_ne (fun q => by rw [q, sq1] at e; cases e)]; exact e, fun b z => .inl z⟩
            · exact r2.elim
    | _ => exact r.elim
theorem snd_mvk {i : Nat} {k1 k2 : E} (h : CxOk T c k Γ X) (q : hMvk T i k1 k2 Γ x = true) : PS X x (tSD c W Γ.M fr (.mvk i k1 k2)) := by
  unfold hMvk at q
  split at q
  · split at q
    · simp only [Bool.and_eq_true, decide_eq_true_eq] at q
      obtain ⟨⟨⟨⟨⟨⟨⟨q1, rfl⟩, rfl⟩, q4⟩, q3⟩, q5⟩, q6⟩, q7⟩ := q
      obtain ⟨h1, h2, h3, h4⟩ := h.name q1
      obtain ⟨g1, g2, g3, g4⟩ := h.name q4
      exact ps_mvkD h.hu (sndE k2 c Γ X _ h q7) h1 h2 h3 h4 g1 g2 g3 g4 q3 (star_of q5) q6
    · cases q
  · cases q
theorem snd_put {i : Nat} {j e : E} (h : CxOk T c k Γ X) (q : hPut T i j e Γ x = true) : PS X x (tSD c W Γ.M fr (.put i j e)) := by
  unfold hPut at q
  split at q
  · simp only [Bool.and_eq_true] at q
    obtain ⟨⟨⟨⟨⟨⟨q1, q2⟩, q3⟩, q4⟩, q5⟩, q6⟩, q7⟩ := q
    obtain ⟨h1, h2, h3, h4⟩ := h.name q1
    exact ps_putD h.hu h.hK h.hP h.hw (sndE e c Γ X _ h q6) (sndE j c Γ X _ h q5) h1 h2 h3 h4 q2 (not1 q3) (not1 q7) (sw_false q4)
  · cases q
theorem snd_pop {i : Nat} {j : E} (h : CxOk T c k Γ X) (q : hPop T i j Γ x = true) : PS X x (tSD c W Γ.M fr (.pop i j)) := by
  unfold hPop at q
  split at q
  · simp only [Bool.and_eq_true, decide_eq_true_eq] at q
    obtain ⟨⟨⟨⟨⟨q1, rfl⟩, q3⟩, q5⟩, q6⟩, q7⟩ := q
    obtain ⟨h1, h2, h3, h4⟩ := h.name q1
    exact ps_popD (sndE j c Γ X _ h q7) h1 h2 h3 h4 q3 (star_of q5) q6
  · cases q
theorem snd_ret {e : E} (h : CxOk T c k Γ X) (q : hRet T fr e Γ x = true) : PS X x (tSD c W Γ.M fr (.ret e)) := by
  unfold hRet at q
  split at q
  · rename_i v p
    split at q
    · rename_i hb
      cases e with
      | var i =>
        cases v with
        | Name n p =>
          obtain ⟨h1, h2, h3, h4⟩ := h.name (by simpa only [chkE] using q)
          exact ps_retOwn h1 h2 h3 h4 hb
        | _ => simp [chkE] at q
      | _ => cases hb
    · rename_i hb
      obtain ⟨q1, q2⟩ := and1 q
      refine ps_retD (sndE e c Γ X _ h q2) (Bool.eq_false_iff.mpr hb) fun z => ?_
      rw [z, h.frf.symm] at q1
      simpa using q1
  · cases q
end
theorem snd_retC {W : Nat} {fr : Bool} {g cid i : Nat} {e : E} {js : List Nat} {x y : Stmt} (h : CxOk T c k Γ X) (q : chkRC T g e cid js i Γ x y = true) : PSs X [x, y] (tSsD c W Γ.M fr [.retC g e cid js i]) := by
  unfold chkRC at q
  split at q
  · rename_i n params body scope n' pos xn xp a z zp cp rp
    simp only [Bool.and_eq_true, decide_eq_true_eq] at q
    obtain ⟨⟨⟨⟨⟨⟨⟨⟨⟨⟨⟨⟨q1, q2⟩, q3⟩, q4⟩, q5⟩, rfl⟩, rfl⟩, q8⟩, q9⟩, q10⟩, q11⟩, q12⟩, q13⟩ := q
    cases hf : T.fn g with
    | none => rw [hf] at q1; cases q1
    | some fn =>
      rw [hf] at q1
      simp only [Bool.and_eq_true, decide_eq_true_eq] at q1
      cases hmk : Γ.mkr with
      | none => rw [hmk] at q11; cases q11
      | some m =>
        rw [hmk] at q11
        have hn := of_decide_eq_true q11
        obtain ⟨⟨cc, P, tb, hcode, hm, hu⟩, hfn⟩ := h.mkr m hmk
        rw [hn] at hm hu
        obtain ⟨g1, g2, g3, g4⟩ := h.name q8
        have q12' := q12
        rw [← h.sc] at q12'
        obtain ⟨d1, d2, d3, d4, d5⟩ := h.chd _ _ _ _ _ _ _ q12'
        have nd : X.N.Nodup := by rw [h.hN]; exact h.nd
        have hjs : js.map (fun j => X.N[j]?) = (T.cli cid).2.map some := by rw [h.hN]; exact q13
        exact pss_retC h.hK (h.tak (.inr ⟨_, _, _, q12⟩) g fn hf) q1.2 q1.1 h.room (h.glo q2) (q1.1 ▸ (h.fns g fn hf).db) (sndE e c Γ X a h q3) (not1 q4) (star_of q5) g1 nd g2 (by rw [h.sc]; exact loc_of q9) g3 g4 (not1 q10) q12' d4 d5 hjs hfn tb hcode hm hu d1 d2 (d3 _)
  · cases q
mutual
theorem sndS : ∀ (s : Sm) (c : Cn) (Γ : Sta) (X : Cx) (x : Stmt), CxOk T c k Γ X → Γ.sc.kind = .function → FcOk c X → chkSm T fr s Γ x = true → PS X x (tSD c W Γ.M fr s)
  | .asg i e, c, Γ, X, x, h, hk, hp, q => snd_asg h hk (by simpa only [chkSm] using q)
  | .asgT is e, c, Γ, X, x, h, hk, hp, q => snd_asgT h (by simpa only [chkSm] using q)
  | .asgP is es, c, Γ, X, x, h, hk, hp, q => snd_par h hk (by simpa only [chkSm] using q)
  | .app i e, c, Γ, X, x, h, hk, hp, q => snd_app h (by simpa only [chkSm] using q)
  | .ext i e, c, Γ, X, x, h, hk, hp, q => snd_ext h (by simpa only [chkSm] using q)
  | .put i j e, c, Γ, X, x, h, hk, hp, q => snd_put h (by simpa only [chkSm] using q)
  | .pop i j, c, Γ, X, x, h, hk, hp, q => snd_pop h (by simpa only [chkSm] using q)
  | .ret e, c, Γ, X, x, h, hk, hp, q => snd_ret h (by simpa only [chkSm] using q)
  | .ite t a b, c, Γ, X, x, h, hk, hp, q => by
    cases x with
    | If u xs ys p =>
      simp only [chkSm, Bool.and_eq_true] at q
      exact ps_iteD (sndQ t c Γ X u h q.1.1) (sndSs a c Γ X xs h hk hp q.1.2) (sndSs b c Γ X ys h hk hp q.2)
    | _ => simp [chkSm] at q
  | .for_ tg it b, c, Γ, X, x, h, hk, hp, q => by
    cases x with
    | For te ie xs el p =>
      cases el with
      | nil =>
        simp only [chkSm, Bool.and_eq_true] at q
        obtain ⟨⟨⟨⟨q1, q2⟩, q3⟩, q4⟩, q5⟩ := q
        exact ps_forD hp.own h.calm (sndI it c Γ X ie te h q1) (h.tgt q4) (sndSs b c Γ X xs h hk hp q5) (okTI_of q1 q4) (not1 q2) (set_of q3)
      | cons _ _ => simp [chkSm] at q
    | _ => simp [chkSm] at q
  | .whl t b, c, Γ, X, x, h, hk, hp, q => by
    cases x with
    | While u xs el p =>
      cases el with
      | nil =>
        simp only [chkSm, Bool.and_eq_true] at q
        exact ps_whlD hp.own (sndQ t c Γ X u h q.1) (sndSs b c Γ X xs h hk hp q.2)
      | cons _ _ => simp [chkSm] at q
    | _ => simp [chkSm] at q
  | .forP tg i b, c, Γ, X, x, h, hk, hp, q => by
    cases x with
    | For te ie xs el p =>
      cases ie with
      | Call g as ks cp =>
        cases g with
        | Attribute o n ap =>
          cases o with
          | Name y yp =>
            match as, ks, el, q with
            | [], [], [], q =>
              simp only [chkSm, Bool.and_eq_true, decide_eq_true_eq] at q
              obtain ⟨⟨⟨⟨⟨q1, rfl⟩, q3⟩, q4⟩, q5⟩, q6⟩ := q
              obtain ⟨h1, h2, h3, h4⟩ := h.name q1
              exact ps_forPD h.hK hp.own h.calm (h.tgt q5) (sndSs b c Γ X xs h hk hp q6) h1 h2 h3 h4 q3 q4
            | _ :: _, _, _, q => simp [chkSm] at q
            | [], _ :: _, _, q => simp [chkSm] at q
            | [], [], _ :: _, q => simp [chkSm] at q
          | _ => simp [chkSm] at q
        | _ => simp [chkSm] at q
      | _ => simp [chkSm] at q
    | _ => simp [chkSm] at q
  | .bad, c, Γ, X, x, h, hk, hp, q => ⟨fun pins s σ H D I z => by
    obtain ⟨H0, Oc, Ts, ρ, ho, env, r⟩ := z
    simp only [ex] at r
    exact r.elim⟩
  | .tryT b, c, Γ, X, x, h, hk, hp, q => by
    cases x with
    | Try xs hs el fi p =>
      match hs, el, fi, q with
      | h0 :: hs, [], [], q =>
        simp only [chkSm] at q
        have hn : CxOk T c.q k Γ X.nox := { hK := h.hK, hP := h.hP, hw := h.hw, hmg := h.hmg, hN := h.hN, nd := h.nd, sc := h.sc, calm := h.calm, room := h.room, pass := passL, fn := h.fn, bl := h.bl, gl := h.gl, fns := fun f fn e => ⟨(h.fns f fn e).at_, (h.fns f fn e).db⟩, frf := h.frf, fad := h.fad, dom := h.dom, no9 := h.no9, cl := h.cl, cw := h.cw, tak := h.tak, chl := h.chl, chd := h.chd, mkr := h.mkr, xr := h.xr, xok := h.xok, xnm := h.xnm, x0 := h.x0 }
        refine (ps_try_thru0 (sndSs b c.q Γ X.nox xs hn hk ⟨PassesOwn.never, hp.stk, hp.frm, takes0⟩ q)).imp fun N σ H ⟨H0, Oc, Ts, ρ, ho, env, r⟩ => ?_
        simp only [ex] at r
        refine ⟨H0, Oc, Ts, ρ, ho, env, ?_⟩
        show Run (exs c.F W Γ.M b ρ) _ _
        cases he : exs c.F W Γ.M b ρ with
        | ok f => rw [he] at r; exact r
        | exc x => rw [he] at r; exact r.elim
        | no => rw [he] at r; exact r.elim
      | [], _, _, q => simp [chkSm] at q
      | _ :: _, _ :: _, _, q => simp [chkSm] at q
      | _ :: _, [], _ :: _, q => simp [chkSm] at q
    | _ => simp [chkSm] at q
  | .rai b a, c, Γ, X, x, h, hk, hp, q => snd_rai h hp (by simpa only [chkSm] using q)
  | .retC _ _ _ _ _, c, Γ, X, x, h, hk, hp, q => by simp [chkSm] at q
  | .mvk i k1 k2, c, Γ, X, x, h, hk, hp, q => snd_mvk h (by simpa only [chkSm] using q)
  | .tryA i f es j hs, c, Γ, X, x, h, hk, hp, q => snd_tryA h hp (by simpa only [chkSm] using q)
theorem sndSs : ∀ (ss : List Sm) (c : Cn) (Γ : Sta) (X : Cx) (xs : List Stmt), CxOk T c k Γ X → Γ.sc.kind = .function → FcOk c X → chkSs T fr ss Γ xs = true → PSs X xs (tSsD c W Γ.M fr ss)
  | [], c, Γ, X, [], h, hk, hp, q => pss_nilD
  | [], c, Γ, X, _ :: _, h, hk, hp, q => by simp [chkSs] at q
  | _ :: _, c, Γ, X, [], h, hk, hp, q => by simp [chkSs] at q
  | s :: r, c, Γ, X, x :: xs, h, hk, hp, q => by
    simp only [chkSs] at q
    cases hrc : rcOf s r xs with
    | some p =>
      rw [hrc] at q
      obtain ⟨rfl, rfl, rfl⟩ := rcOf_inv hrc
      exact snd_retC h q
    | none =>
      rw [hrc] at q
      simp only [Bool.and_eq_true] at q
      exact pss_consD (sndS s c Γ X x h hk hp q.1) (sndSs r c Γ X xs h hk hp q.2)
end
end
end MT
end
section
set_option Elab.async false
set_option linter.all false
set_option maxRecDepth 100000
set_option maxHeartbeats 8000000
/-! MtR: defs, and a law's end. -/
namespace MT
open PySem PySem.Spec L2 LamX NdefX
section
variable [Pw]
def cK (K : PySem.W.Frag) (T : Tb) (W : Nat) (wish : XK) (k : Nat) : Cn := { K := K, F := run T.ev W k, frf := frT T, xr := xrP T.xr, wish := wish }
/-- what a law's own errors, and its defs as values, lean on -/
structure XOk (T : Tb) (K : PySem.W.Frag) : Prop where
  fad : ∀ f fn, T.fn f = some fn → Pw.mg (toS fn.name) = some (.ref (Pw.fa f))
  xok : ∀ b ∈ T.xr, XcOk K T.xn b
  xnm : ∀ b ∈ T.xn, b ≠ 6 → Pw.mg (toS (xNm b)) = some (.ref (xC b))
  x0 : T.xr ≠ [] → Pw.mg (toS (xNm 0)) = some (.ref (xC 0))
omit [Pw] in
theorem run_dom {T : Tb} (hev : ∀ f, f < 3000000 → T.ev f = T.fn f) {W k f : Nat} {ds : List D} (hf : f < 2000000) (h : ∀ fn, T.fn f = some fn → ds.length ≠ fn.ps) : run T.ev W k f ds = .no := by
  cases k with
  | zero => rfl
  | succ k =>
    show (match T.ev f with | some fn => runB (run T.ev W k) W fn ds | none => tkR (run T.ev W k) T.ev W f ds) = _
    rw [hev f (by omega)]
    cases e : T.fn f with
    | none =>
      show tkR (run T.ev W k) T.ev W f ds = _
      unfold tkR
      rw [if_pos (by omega)]
    | some fn =>
      show runB (run T.ev W k) W fn ds = _
      unfold runB
      rw [if_neg (h fn e)]
omit [Pw] in
theorem run_fn' {T : Nat → Option Fn} {W k f : Nat} {fn : Fn} {ds : List D} (h : T f = some fn) : run T W (k + 1) f ds = runB (run T W k) W fn ds := by
  show (match T f with | some fn => runB (run T W k) W fn ds | none => tkR (run T W k) T W f ds) = _
  rw [h]
omit [Pw] in
theorem run_tk {T : Nat → Option Fn} {W k g cid : Nat} {fn : Fn} {ds cs : List D} (h0 : T (2000000 + g) = none) (h : T g = some fn) : run T W (k + 1) (2000000 + g) (ds ++ [D.dt [] (.int cid :: cs)]) = runB (cloF (run T W k) cid cs) W fn (ds ++ [D.adr 999999 none]) := by
  show (match T (2000000 + g) with | some fn => runB (run T W k) W fn (ds ++ [D.dt [] (.int cid :: cs)]) | none => tkR (run T W k) T W (2000000 + g) (ds ++ [D.dt [] (.int cid :: cs)])) = _
  rw [h0]
  show tkR _ _ _ _ _ = _
  unfold tkR
  rw [if_neg (by omega), show 2000000 + g - 2000000 = g by omega, h, List.getLast?_concat, List.dropLast_concat]
  simp
omit [Pw] in
theorem runB_ret {F : Nat → List D → R D} {W : Nat} {fn : Fn} {ds : List D} {e : E} (hb : fn.body = [.ret e]) (hl : ds.length = fn.ps) : runB F W fn ds = ev F e (ds.map some ++ List.replicate (fn.names.length - fn.ps) none) := by
  unfold runB
  rw [if_pos hl, hb]
  simp only [exs, ex]
  cases ev F e (ds.map some ++ List.replicate (fn.names.length - fn.ps) none) <;> rfl
def fnN (fn : Fn) : List Str := fn.names.map toS
def fnP (fn : Fn) : List Str := (fnN fn).take fn.ps
def fnSta (fn : Fn) (sc : Scope) : Sta := { N := fnN fn, sc := sc, M := fn.M, stor := fun _ => true, mkr := fn.mkr }
def LAM : List Nat := [60, 108, 97, 109, 98, 100, 97, 62]
def lamQ (qual : Str) (sc : Scope) (nm : List Nat) : Str := (PyProof.Rows.envOfC qual sc 0 0 .none).qual ++ toS nm
/-- a def of the text is the small language's -/
def chkD (T : Tb) (fn : Fn) (st : Stmt) : Bool :=
  chkSs T fn.fr fn.body (fnSta fn (defScope st)) (defBody st) && fn.M.all (fun i => decide (fn.ps ≤ i)) && decide (fn.ps ≤ fn.names.length) && !(toS fn.name == ("__debug__" : Str))
structure FnSt (T : Tb) (K : PySem.W.Frag) (mg : Str → Option Value) (tb : List (Addr × Str)) (cs : List (Addr × Addr)) (fn : Fn) : Prop where
  ex : ∃ (st : Stmt) (x qual : Str) (fa : Addr) (fd : FuncData), mg (toS fn.name) = some (.ref fa) ∧ Fun K x qual st fa fd ∧ Binds K fd (fnP fn) [] ∧ FnScope (fnN fn) (fnP fn) (defScope st) ∧ chkD T fn st = true ∧
    (∀ nm, fn.mkr = some nm → ∃ p ∈ cs, fd.code = .ref p.1 ∧ (p.2, lamQ qual (defScope st) nm) ∈ tb ∧ ∀ r ∈ tb, r.1 = p.2 → r.2 = lamQ qual (defScope st) nm)
section
variable {K : PySem.W.Frag} {base : Heap} {T : Tb} {W : Nat}
theorem start_get {N : List Str} {vs : List V} {i : Nat} {v : V} (h : (start N vs)[i]? = some (some v)) : vs[i]? = some v := by
  unfold L2.start at h
  by_cases hi : i < vs.length
  · rw [List.getElem?_append_left (by simpa using hi), List.getElem?_map] at h
    rw [List.getElem?_eq_getElem hi] at h ⊢
    simpa using h
  · rw [List.getElem?_append_right (by simpa using hi)] at h
    rw [List.getElem?_replicate] at h
    split at h <;> cases h
theorem env_start {fn : Fn} {ds : List D} {vs : List V} {H : Hp} {Oc : Addr → Prop} (hM : ∀ i ∈ fn.M, fn.ps ≤ i) (hl : ds.length = fn.ps) (hle : fn.ps ≤ fn.names.length) (al : AllocO Oc H) (am : Amb H) (r : Rps K H Oc ds vs) :
    EnvOk K H Oc fn.M [] (start (fnN fn) vs) H (ds.map some ++ List.replicate (fn.names.length - fn.ps) none) := by
  have hvl := r.len
  have noM : ∀ i v, fn.M.contains i = true → (start (fnN fn) vs)[i]? ≠ some (some v) := fun i v hi e => by
    have e2 := start_get e
    have h1 := hM i (List.contains_iff_mem.mp hi)
    have h2 := (List.getElem?_eq_some_iff.mp e2).1
    omega
  have ho : Ow Oc fn.M (start (fnN fn) vs) = Oc := by
    funext a
    apply propext
    constructor
    · rintro (z | ⟨i, hi, e⟩)
      · exact z
      · exact (noM i _ hi e).elim
    · exact .inl
  refine ⟨?_, Same.refl H, al, fun i d hi => ?_, fun i a hi e => (noM i _ hi e).elim, fun i j a hi hj e1 e2 => (noM i _ hi e1).elim, (fun p hp => nomatch hp), am⟩
  · unfold L2.start fnN
    simp
    omega
  · rw [ho]
    by_cases hlt : i < ds.length
    · rw [List.getElem?_append_left (by simpa using hlt), List.getElem?_map] at hi
      rw [List.getElem?_eq_getElem hlt] at hi
      simp only [Option.map_some, Option.some.injEq] at hi
      obtain ⟨v, e1, e2⟩ := r.get (List.getElem?_eq_getElem hlt)
      rw [hi] at e2
      refine ⟨v, ?_, fun _ => e2, fun z => ?_⟩
      · unfold L2.start
        rw [List.getElem?_append_left (by simp; omega), List.getElem?_map, e1]; rfl
      · have h1 := hM i (List.contains_iff_mem.mp z)
        omega
    · rw [List.getElem?_append_right (by simpa using hlt), List.getElem?_replicate] at hi
      split at hi <;> cases hi
omit [Pw] in
theorem startF_eq {N : List Str} {vs ws : List V} : startF N vs (ws.map some) = start N (vs ++ ws) := by
  unfold startF L2.start
  rw [List.map_append, List.append_assoc, List.length_map, List.length_append, Nat.sub_sub]
omit [Pw] in
theorem cells_move {cl : List (Str × Addr)} {fr : List Str} {ws : List (Option V)} {h h' : Heap} {H H' : Hp} (C : CellsAt cl fr ws h H) (k : ∀ y c, cl.lookup y = some c → ∀ o, h.get? c = some o → h'.get? c = some o) (n : ∀ y c, cl.lookup y = some c → H' c = none) : CellsAt cl fr ws h' H' := by
  have kp : ∀ y c, cl.lookup y = some c → ∀ v, h.IsCell c v → h'.IsCell c v := fun y c e v ⟨o, ho, hd⟩ => ⟨o, k y c e o ho, hd⟩
  refine ⟨C.len, fun y c e => ⟨n y c e, ?_⟩, C.inj, fun i y e => ?_⟩
  · obtain ⟨_, v, z⟩ := C.all y c e
    exact ⟨v, kp y c e v z⟩
  · obtain ⟨c, hc, hv⟩ := C.has i y e
    exact ⟨c, hc, fun v ev => by obtain ⟨u, r, z⟩ := hv v ev; exact ⟨u, r, kp y c hc _ z⟩⟩
omit [Pw] in
theorem passF {X : Cx} : Passes (L2.CX X.prog X.w) X (fun _ _ _ => False) := fun pins σ H s e s' I hq => by
  obtain ⟨_, _, _, _, _, _, _, _, _, _, _, _, z⟩ := hq
  exact z.elim
omit [Pw] in
theorem ce_mono {outer : List Env} {P : Program} {w : World} {H : Hp} {s s' : Shared} {Q Q' : VK} {u : Value} (h : CE outer P w H s Q u s') (i : ∀ v H', Q v H' → Q' v H') : CE outer P w H s Q' u s' := by
  obtain ⟨v, H', a, b, c, d, e, q⟩ := h
  exact ⟨v, H', a, b, c, d, e, i v H' q⟩
omit [Pw] in
theorem cr_map {outer : List Env} {P : Program} {w : World} {A : Around} {cd : Code} {H1 H : Hp} {s : Shared} {Q1 Q : VK} (h : codeAny (model P w) A cd (CR (L2.CX P w) outer P w H1 s Q1 fun _ _ _ => False) s) (i : ∀ u s', CE outer P w H1 s Q1 u s' → CE outer P w H s Q u s') :
    codeAny (model P w) A cd (CR (L2.CX P w) outer P w H s Q fun _ _ _ => False) s := codeAny_mono h fun r s' hq => by
  cases r with
  | error e =>
    obtain ⟨_, _, _, _, _, _, _, _, _, _, _, _, z⟩ := hq
    exact z.elim
  | ok fl =>
    cases fl with
    | ret u => exact i u s' hq
    | next => exact False.elim hq
    | brk => exact False.elim hq
    | cont => exact False.elim hq
omit [Pw] in
theorem bind1 {params : Arguments} {p : Str} (h : plain1 params = some p) {q : Str} {body : Expr} {scope : Scope} {cl : List (Str × Addr)} {pm cv ctv : Value} {u : Value} :
    bindArgs (PySem.W.kla_fn "<lambda>" q params body scope cl pm cv ctv) ⟨[u], []⟩ = pure ([p].zip [u]) := by
  unfold plain1 at h
  split at h
  · cases h
    simp [bindArgs, PySem.W.kla_fn, seqItems?, List.lookup]
    rfl
  · cases h
end
end
def plain2 : Arguments → Option (Str × Str)
  | ⟨[], [⟨a, none, _⟩, ⟨b, none, _⟩], none, [], [], none, []⟩ => some (a, b)
  | _ => none
def defSta (fn : Fn) (scope : Scope) : Sta := { N := fn.names.map toS, sc := scope, M := fn.M, stor := fun _ => false }
/-- the text of an inner def is the small language's -/
def chdOf (T : Tb) (c : Nat) (sc : Scope) : Stmt → Bool
  | .FunctionDef _ params body [] none [] scope none _ _ => (match plain2 params, T.ev (4000000 + c) with
    | some (a, b), some fn => decide ((T.cli c).1 = 2) && decide (fn.ps = 2 + (T.cli c).2.length) && decide (fn.ps ≤ fn.names.length) && decide (fn.M = [1]) && fn.fr && nscB (fn.names.map toS) [a, b] (T.cli c).2 scope && ndefB sc scope (T.cli c).2 && chkSs T fn.fr fn.body (defSta fn scope) body
    | _, _ => false)
  | _ => false
theorem bind2 {params : Arguments} {a b : Str} (h : plain2 params = some (a, b)) (hne : a ≠ b) {nm q : Str} {body : List Stmt} {scope : Scope} {cl : List (Str × Addr)} {doc pm cv ctv : Value} {u1 u2 : Value} :
    bindArgs (PySem.W.fnX nm q params body scope cl .none .none doc pm none cv ctv) ⟨[u1, u2], []⟩ = pure ([a, b].zip [u1, u2]) := by
  unfold plain2 at h
  split at h
  · cases h
    have n1 : (b == a) = false := beq_eq_false_iff_ne.mpr (Ne.symm hne)
    simp [bindArgs, PySem.W.fnX, seqItems?, List.lookup, n1]
    rfl
  · cases h
/-- the instances of a law: the address of the closure in force, what it leans on -/
@[reducible] def pwA (P : Program) (w : World) (mg : Str → Option Value) (fa : Nat → Addr) (tb : List (Addr × Str)) (a : Addr) (L : List (Addr × HO)) : Pw := ⟨P, w, mg, fun n => if n = 999999 then a else fa n, tb, L⟩
section
variable {P : Program} {w : World} {K : PySem.W.Frag} {mg : Str → Option Value} {fa : Nat → Addr} {tb : List (Addr × Str)} {base : Heap} {T : Tb} {W : Nat} {cs : List (Addr × Addr)}
structure HypL (P : Program) (w : World) (K : PySem.W.Frag) (mg : Str → Option Value) (fa : Nat → Addr) (tb : List (Addr × Str)) (base : Heap) (T : Tb) (cs : List (Addr × Addr)) : Prop where
  bl : ∀ x, T.bl.contains x = true → mg x = none
  gl : ∀ p ∈ T.gl, ∃ v u, mg p.1 = some u ∧ RelV v u ∧ ∀ (pw : Pw) H O, @Rp pw K H O p.2 v
  x : ∀ a L, @XOk (pwA P w mg fa tb a L) T K
  ev : ∀ f, f < 3000000 → T.ev f = T.fn f
  no9 : T.fn 999999 = none
  no1 : ∀ f, 1000000 ≤ f → T.fn f = none
  chl : ∀ cid sc x, T.chl cid sc x = true → chlOf T.zero cid sc x = true
  chd : ∀ cid sc x, T.chd cid sc x = true → chdOf T.zero cid sc x = true
  no8 : T.fn 1999998 = none
  c1 : ∀ cid, (T.cli cid).1 = 1 → cid < 1000 ∧ T.ev (4000000 + cid) = none
  c2 : ∀ cid, (T.cli cid).1 = 2 → cid < 1000 ∧ T.ev (3000000 + cid) = none
  st : ∀ f fn, T.fn f = some fn → FnSt T K mg tb cs fn
  tab : ∀ p ∈ cs, TabB base mg p.1 p.2
theorem HypL.lt (h : HypL P w K mg fa tb base T cs) {f : Nat} {fn : Fn} (e : T.fn f = some fn) : f < 1000000 := by
  apply Decidable.byContradiction
  intro z
  rw [h.no1 f (by omega)] at e
  cases e
theorem HypL.evf (h : HypL P w K mg fa tb base T cs) {f : Nat} {fn : Fn} (e : T.fn f = some fn) : T.ev f = some fn := by
  have := h.lt e
  rw [h.ev f (by omega)]
  exact e
theorem HypL.ne8 (h : HypL P w K mg fa tb base T cs) {f : Nat} {fn : Fn} (e : T.fn f = some fn) : f ≠ 1999998 := fun z => by rw [z, h.no8] at e; cases e
theorem HypL.ne9 (h : HypL P w K mg fa tb base T cs) {f : Nat} {fn : Fn} (e : T.fn f = some fn) : f ≠ 999999 := fun z => by rw [z, h.no9] at e; cases e
def LvA (P : Program) (w : World) (K : PySem.W.Frag) (mg : Str → Option Value) (fa : Nat → Addr) (tb : List (Addr × Str)) (base : Heap) (T : Tb) (W k : Nat) : Prop := ∀ (a : Addr) (L : List (Addr × HO)) (f : Nat) (fn : Fn), T.fn f = some fn → (letI : Pw := pwA P w mg fa tb a L; FnAt P w mg base (cK K T W E0 k) k fn.ps f (toS fn.name))
def LvB (P : Program) (w : World) (K : PySem.W.Frag) (mg : Str → Option Value) (fa : Nat → Addr) (tb : List (Addr × Str)) (base : Heap) (T : Tb) (W k : Nat) : Prop := ∀ (a : Addr) (L : List (Addr × HO)) (g : Nat) (fn : Fn), T.fn g = some fn → (letI : Pw := pwA P w mg fa tb a L; TakP T P w mg base (cK K T W E0 k) k g fn)
/-- what a lambda promises -/
def LvC (P : Program) (w : World) (K : PySem.W.Frag) (mg : Str → Option Value) (fa : Nat → Addr) (tb : List (Addr × Str)) (base : Heap) (T : Tb) (W k : Nat) : Prop :=
  letI : Pw := pwA P w mg fa tb 0 []
  ∀ (cid : Nat) (sc : Scope) (params : Arguments) (body : Expr) (scope : Scope) (lpos : Pos) (q : Str) (cl : List (Str × Addr)) (pm : Value) (c' : Addr) (ctv : Value) (cells : List (Addr × Obj)) (vs' : List V) (xs : List D) (a : Addr) (h0 : Heap) (H0 : Hp),
    chlOf T.zero cid sc (.Lambda params body scope lpos) = true → CellsAt cl (T.cli cid).2 (vs'.map some) h0 H0 → (∀ b o, cells.lookup b = some o → h0.get? b = some o) → (∀ y c, cl.lookup y = some c → ∃ o, cells.lookup c = some o) →
    ∀ (A : Around) (outer : List Env) (s : Shared) (H : Hp) (us : List Value) (vs : List V) (ds : List D) (Q : VK), Room k A → Env0 P w K mg base A outer s H → H a = some (.frz (lamObj q params body scope cl pm c' ctv) (.own a)) → H c' = some (CodeO c' q) → Fz H cells → Tabs tb H →
      Vals vs us → D.pures ds = true → Rps K H (fun _ => False) ds vs → D.pures xs = true → Rps K H (fun _ => False) xs vs' → ds.length = 1 →
      Run (pureR (run T.ev W k (3000000 + cid) (ds ++ xs))) (fun d => ∀ v H', Same H H' → Rp K H' (fun _ => False) d v → Q v H') (fun _ => False) →
      codeAny (model P w) A (.call (.ref a) ⟨us, []⟩) (CR (L2.CX P w) outer P w H s Q fun _ _ _ => False) s
/-- what is promised goes by the calls' oracle alone -/
theorem takp_F [Pw] {c c2 : Cn} {k g : Nat} {fn : Fn} (hK : c2.K = c.K) (hF : c2.F (2000000 + g) = c.F (2000000 + g)) (h : TakP T P w mg base c k g fn) : TakP T P w mg base c2 k g fn := by
  unfold TakP at h ⊢
  rw [hK, hF]
  exact h
theorem fnat_F [Pw] {c c2 : Cn} {k n f : Nat} {x : Str} (hK : c2.K = c.K) (hF : c2.F f = c.F f) (hr : c2.frf = c.frf) (hx : c2.xr = c.xr) (h : FnAt P w mg base c k n f x) : FnAt P w mg base c2 k n f x := by
  have e : spD c2 n f = spD c n f := by unfold spD; rw [hK, hF, hr, hx]
  obtain ⟨⟨fa, fd, ps, h1, h2, h3, h4, h5⟩, db⟩ := h
  exact ⟨⟨fa, fd, ps, h1, by rw [hK]; exact h2, by rw [hK]; exact h3, h4, by rw [hK, e]; exact h5⟩, db⟩
theorem lvC_succ {k : Nat} (h : HypL P w K mg fa tb base T cs) (hA : LvA P w K mg fa tb base T W k) (hB : LvB P w K mg fa tb base T W k) : LvC P w K mg fa tb base T W (k + 1) := by
  letI : Pw := pwA P w mg fa tb 0 []
  intro cid sc params body scope lpos q cl pm c' ctv cells vs' xs a h0 H0 hch CA hc0 hcl A outer s H us vs ds Q hr e0 hfa hco fz ht rv pd rd px rx hl rn
  unfold chlOf at hch
  dsimp only at hch
  split at hch
  case h_2 => cases hch
  rename_i p fn hp hfn
  split at hch
  case h_2 => cases hch
  rename_i e hbody
  simp only [Bool.and_eq_true, decide_eq_true_eq] at hch
  obtain ⟨⟨⟨⟨⟨⟨q1, q2⟩, q3⟩, q4⟩, q5⟩, q6⟩, q7⟩ := hch
  have hfn' : T.ev (3000000 + cid) = some fn := hfn
  have S : NScope (fnN fn) [p] (T.cli cid).2 scope := nscope_by q5
  have hcl2 : (T.cli cid).2.length = vs'.length := by have := CA.len; rw [List.length_map] at this; exact this.symm
  have hvl := rd.len
  have hxl := rx.len
  have len : (ds ++ xs).length = fn.ps := by
    have q2' : fn.ps = 1 + (T.cli cid).2.length := q2
    rw [List.length_append, hl, hxl, q2', hcl2]
  rw [run_fn' hfn', runB_ret hbody len] at rn
  have e1 := env0_rm e0 fz
  have gone : ∀ y c, cl.lookup y = some c → rmC H cells c = none := fun y c e => by
    obtain ⟨o, ho⟩ := hcl y c e
    exact rmC_in ho
  have CA2 : CellsAt cl (T.cli cid).2 (vs'.map some) s.heap (rmC H cells) := cells_move CA (fun y c e o ho => by
    obtain ⟨o', ho'⟩ := hcl y c e
    have := hc0 c o' ho'
    rw [ho] at this
    cases this
    exact hok_fz e0.hok fz c o ho') gone
  have of1 := (e0.hok a _ hfa).1
  have KX : K.In s.heap := e0.mod.kin.keeps fun b o e => (e0.bs b o e).1
  have lim : s.heap.NoLimit := e0.mod.nolimit.keeps fun b o e => (e0.bs b o e).1
  obtain ⟨⟨oc, cvs, t, hoc, hdc, hvc⟩, _, _⟩ := e0.hok c' _ hco
  have hk : ∀ a o, K.lookup a = some o → cells.lookup a = none := fun a o e => by
    cases z : cells.lookup a with
    | none => rfl
    | some o' =>
      have := (e0.bs a o (e0.mod.kin a o e)).2
      rw [fz a o' z] at this
      cases this
  obtain ⟨u, rfl⟩ : ∃ u, us = [u] := by
    have : us.length = 1 := by rw [← rv.length, ← hvl]; exact hl
    match us, this with
    | [u], _ => exact ⟨u, rfl⟩
  have hvp : vs.length = [p].length := by rw [← hvl, hl]; rfl
  let F : NF := ⟨"<lambda>", q, params, [], scope, cl, c'⟩
  let ρ : Rho := (ds ++ xs).map some ++ List.replicate (fn.names.length - fn.ps) none
  obtain ⟨d, hev, hdp, hk9⟩ : ∃ d, ev (run T.ev W k) e ρ = .ok d ∧ d.pure = true ∧ ∀ v H', Same H H' → Rp K H' (fun _ => False) d v → Q v H' := by
    cases hev : ev (run T.ev W k) e ρ with
    | no => rw [hev] at rn; exact rn.elim
    | exc x => rw [hev] at rn; exact rn.elim
    | ok d =>
      rw [hev] at rn
      simp only [pureR] at rn
      cases hdp : d.pure with
      | false => rw [hdp] at rn; exact rn.elim
      | true => rw [hdp] at rn; exact ⟨d, rfl, hdp, rn⟩
  have rc : codeAny (model P w) A (.call (.ref a) ⟨[u], []⟩) (CR (L2.CX P w) outer P w (rmC H cells) s (fun v H1 => Same (rmC H cells) H1 ∧ Rp K H1 (fun _ => False) d v) fun _ _ _ => False) s := by
    refine PySem.W.kla_callFunE hr.depth of1 rfl S.co S.gen rfl ⟨c', oc, cvs, t, rfl, hoc, hdc, hvc⟩ ?_
    rw [bind1 hp]
    refine wpAny_pure (wpAny_newFunctionEnv S.nocell (fun ⟨n, _⟩ hy => S.par n (List.of_mem_zip hy).1) (fun h₁ hns hsb => ⟨lim.fresh _ hsb, ?_⟩) S.kind)
    show codeAny _ _ (.expr body (envF F a s.heap.objs.size)) _ _
    have kp : ∀ b o, s.heap.get? b = some o → h₁.get? b = some o := fun b o e => hsb.extBut b o (Nat.ne_of_lt (Heap.lt_size e)) (Heap.get?_push_of_some _ e)
    have J : Inv (ncx (L2.CX P w) P w K mg base (fnN fn) F a A outer s (rmC H cells) fun _ _ _ => False) [] (startF (fnN fn) vs (vs'.map some)) (rmC H cells) { s with heap := h₁, toks := s.toks + ([p].zip [u]).length } := inv_startN S hr.hd e1 hvp rv CA2 hns kp
    have cx : CxOk T.zero (cK K T W (fun _ _ _ => False) k) k (lamSta fn scope) (ncx (L2.CX P w) P w K mg base (fnN fn) F a A outer s (rmC H cells) fun _ _ _ => False) :=
      { hK := rfl, hP := rfl, hw := rfl, hmg := rfl, hN := rfl, nd := S.nd, sc := rfl, calm := rfl, room := hr.deeper _, pass := passF, fn := fun x z => (nomatch z), bl := h.bl,
        gl := fun p hp => (by obtain ⟨v, u, g1, g2, g3⟩ := h.gl p hp; exact ⟨v, u, g1, g2, g3 _⟩),
        fns := fun f' fn' e => ⟨(hA 0 [] f' fn' e).at_, (hA 0 [] f' fn' e).db⟩, frf := rfl, fad := (h.x 0 []).fad, dom := fun f ds h6 _ hq => run_dom h.ev (by omega) hq, no9 := h.no9,
        cl := .inl fun ds => run_dom h.ev (by omega) fun fn hf => (by rw [h.no9] at hf; cases hf), cw := .inl fun ds => run_dom h.ev (by omega) fun fn hf => (by rw [h.no8] at hf; cases hf), tak := fun z => (by rcases z with ⟨_, _, _, z⟩ | ⟨_, _, _, z⟩ <;> cases z), chl := fun _ _ _ z => (nomatch z), chd := fun _ _ _ _ _ _ _ z => (nomatch z), mkr := fun _ z => (nomatch z),
        xr := rfl, xok := (h.x 0 []).xok, xnm := (h.x 0 []).xnm, x0 := (h.x 0 []).x0 }
    have rps : Rps K (rmC H cells) (fun _ => False) (ds ++ xs) (vs ++ vs') := (Rps.rm fz hk ds vs pd rd).append (Rps.rm fz hk xs vs' px rx)
    have env := env_start (K := K) (fn := fn) (H := rmC H cells) (Oc := fun _ => False) (fun i hi => by rw [q4] at hi; cases hi) len q3 (fun a z => z.elim) ⟨tabs_rm fz ht, fun p hp => nomatch hp⟩ rps
    rw [q4] at env
    rw [startF_eq] at J
    refine PySem.W.kla_codeExpr (wpAny_mono ((sndE e _ (lamSta fn scope) _ body cx q7).run [] _ _ (rmC H cells) (fun v H1 => Same (rmC H cells) H1 ∧ Rp K H1 (fun _ => False) d v) J ⟨rmC H cells, fun _ => False, [], ρ, env, ?_⟩) (fun v s' hq => ?_) fun e s' hq => hq)
    · show Run (ev (run T.ev W k) e ρ) _ _
      rw [hev]
      intro v H1 s1 vk
      have hb : bor [] e = false := by cases e <;> rfl
      exact ⟨s1, Rp.pureO d v hdp (vk.2.1 hb)⟩
    · obtain ⟨v', H', J', rv', q'⟩ := hq
      exact ⟨v', H', J'.os, J'.bare, J'.base, J'.hok, rv', q'⟩
  refine cr_map rc fun u s' hq => ce_mono (ce_ad e0 fz hq) fun v H' ⟨H1, eH, nz, s1, r1⟩ => ?_
  subst eH
  exact hk9 v _ (same_ad fz nz s1) (Rp.step (Stp.same (Same.of (adC_ext nz))) _ _ r1)
theorem Fun.okC {x qual : Str} {st : Stmt} {f : Addr} {fd : FuncData} {N ps : List Str} {k : Nat} {sp : Sp} (F : Fun K x qual st f fd) (S : FnScope N ps (defScope st)) (len : ∀ vs H Q E, sp vs H Q E → vs.length = ps.length)
    (hb : ∀ (A : Around) (outer : List Env) (s : Shared) (H : Hp) (vs : List V) (Q : VK) (E : XK), Room k (A.deeper (PyProof.Rows.envOfC qual (defScope st) s.heap.objs.size f fd.code)) → sp vs H Q E →
      ∃ t, PSs (cxOf (L2.CX P w) P w K mg base N qual (defScope st) f fd.code A outer s H E) (defBody st) t ∧ t { nx := fun _ H' => Q .non H', rt := Q } (start N vs) H) : FnOk P w K mg base (L2.CX P w) (k + 1) f fd ps sp := by
  obtain ⟨oc, od, kV, doc, pm, an, cdv, ct, osl, rfl, lk, hcd⟩ := F.ex
  exact fn_of lk hcd S len hb
theorem mkr_of (h : HypL P w K mg fa tb base T cs) {fn : Fn} {qual : Str} {st : Stmt} {fd : FuncData} (hmk : ∀ nm, fn.mkr = some nm → ∃ p ∈ cs, fd.code = .ref p.1 ∧ (p.2, lamQ qual (defScope st) nm) ∈ tb ∧ ∀ r ∈ tb, r.1 = p.2 → r.2 = lamQ qual (defScope st) nm) {X : Cx} {L f : Addr}
    (he : X.env = PyProof.Rows.envOfC qual (defScope st) L f fd.code) (hb : X.base = base) (hg : X.mg = mg) (hf : X.fn = fun _ => true) (nm : List Nat) (z : fn.mkr = some nm) :
    (∃ cc P', TabB X.base X.mg cc P' ∧ X.env.code = .ref cc ∧ (P', X.env.qual ++ toS nm) ∈ tb ∧ ∀ p ∈ tb, p.1 = P' → p.2 = X.env.qual ++ toS nm) ∧ ∀ x, X.fn x = true := by
  obtain ⟨p, hp, hc, h1, h2⟩ := hmk nm z
  rw [he, hb, hg, hf]
  exact ⟨⟨p.1, p.2, h.tab p hp, hc, h1, h2⟩, fun _ => rfl⟩
/-- the head of an inner def -/
theorem chdh (h : HypL P w K mg fa tb base T cs) : ∀ cid sc name params body scope pos, T.chd cid sc (.FunctionDef name params body [] none [] scope none name pos) = true → params.defaults = [] ∧ params.kw_defaults = [] ∧ (∀ env, annTrees params none env = []) ∧ (∀ y ∈ scope.names, y.2 = .free → sc.names.lookup y.1 = some .cell ∨ sc.names.lookup y.1 = some .free) ∧ ∀ y ∈ (T.cli cid).2, (y, NameKind.free) ∈ scope.names := by
  intro cid sc name params body scope pos hc
  have hq := h.chd _ _ _ hc
  unfold chdOf at hq
  dsimp only at hq
  split at hq
  case h_2 => cases hq
  rename_i a b fn hp hfn
  simp only [Bool.and_eq_true] at hq
  obtain ⟨⟨⟨⟨⟨⟨⟨q1, q2⟩, q3⟩, q4⟩, q5⟩, q6⟩, q7⟩, q8⟩ := hq
  have hp2 := hp
  unfold plain2 at hp2
  split at hp2
  · exact ⟨rfl, rfl, fun _ => rfl, ndef_free q7, ndef_fr q7⟩
  · cases hp2
theorem lvA_succ {k : Nat} (h : HypL P w K mg fa tb base T cs) (hA : LvA P w K mg fa tb base T W k) (hB : LvB P w K mg fa tb base T W k) (a : Addr) (L : List (Addr × HO)) {f : Nat} {fn : Fn} (hf : T.fn f = some fn) {st : Stmt} {x qual : Str} {fa1 : Addr} {fd : FuncData}
    (F : Fun K x qual st fa1 fd) (S : FnScope (fnN fn) (fnP fn) (defScope st)) (q : chkD T fn st = true) (hmk : ∀ nm, fn.mkr = some nm → ∃ p ∈ cs, fd.code = .ref p.1 ∧ (p.2, lamQ qual (defScope st) nm) ∈ tb ∧ ∀ r ∈ tb, r.1 = p.2 → r.2 = lamQ qual (defScope st) nm) :
    letI : Pw := pwA P w mg fa tb a L; FnOk P w K mg base (L2.CX P w) (k + 1) fa1 fd (fnP fn) (spD (cK K T W E0 (k + 1)) fn.ps f) := by
  letI : Pw := pwA P w mg fa tb a L
  unfold chkD at q
  simp only [Bool.and_eq_true, decide_eq_true_eq, List.all_eq_true, Bool.not_eq_true'] at q
  obtain ⟨⟨⟨q1, q2⟩, q3⟩, q4⟩ := q
  have hpl : (fnP fn).length = fn.ps := by unfold fnP fnN; rw [List.length_take, List.length_map]; omega
  refine Fun.okC F S (fun vs H Q E ⟨Oc, ds, al, am, r, hl, _⟩ => by rw [← r.len, hl, hpl]) (fun A outer s H vs Q E hr ⟨Oc, ds, al, am, r, hl, rn⟩ => ?_)
  have cx : CxOk T (cK K T W E k) k (fnSta fn (defScope st)) (cxOf (L2.CX P w) P w K mg base (fnN fn) qual (defScope st) fa1 fd.code A outer s H E) :=
    { hK := rfl, hP := rfl, hw := rfl, hmg := rfl, hN := rfl, nd := S.nd, sc := rfl, calm := rfl, room := hr, pass := passes_call (takes_of rfl rfl rfl rfl) (fun _ _ _ _ z => z), fn := fun _ _ => rfl, bl := h.bl,
      gl := fun p hp => (by obtain ⟨v, u, g1, g2, g3⟩ := h.gl p hp; exact ⟨v, u, g1, g2, g3 _⟩),
      fns := fun f' fn' e => ⟨(hA a L f' fn' e).at_, (hA a L f' fn' e).db⟩, frf := rfl, fad := (h.x a L).fad, dom := fun f ds h6 _ hq => run_dom h.ev (by omega) hq, no9 := h.no9,
      cl := .inl fun ds => run_dom h.ev (by omega) fun fn hf => (by rw [h.no9] at hf; cases hf), cw := .inl fun ds => run_dom h.ev (by omega) fun fn hf => (by rw [h.no8] at hf; cases hf), tak := fun _ g fn e => takp_F rfl rfl (hB a L g fn e), chl := h.chl, chd := chdh h, mkr := mkr_of h hmk rfl rfl rfl rfl,
      xr := rfl, xok := (h.x a L).xok, xnm := (h.x a L).xnm, x0 := (h.x a L).x0 }
  refine ⟨_, sndSs (W := W) fn.body _ _ _ (defBody st) cx S.kind ⟨passes_of rfl, rfl, rfl, takes_of rfl rfl rfl rfl⟩ q1, ?_⟩
  have rn' : Run (run T.ev W (k + 1) f ds) _ _ := rn
  rw [run_fn' (h.evf hf)] at rn'
  unfold runB at rn'
  rw [if_pos hl] at rn'
  refine ⟨H, Oc, [], _, al, env_start (fun i hi => q2 i hi) hl q3 al am r, (Run.bind.mp rn').mono (fun fl hfl => ?_) fun x z => z⟩
  have hfr : frT T f = fn.fr := by unfold frT; rw [hf]
  cases fl with
  | nx ρ => exact fun σ' H' env' => hfl .non H' env'.base rfl (fun _ z => nomatch z)
  | rt d => exact fun v H' s' rv hn => hfl v H' s' rv (fun z => hn (hfr.symm.trans z))
  | bk ρ => exact hfl.elim
  | ct ρ => exact hfl.elim
theorem lvA_at {k : Nat} (h : HypL P w K mg fa tb base T cs) (hA : LvA P w K mg fa tb base T W k) (hB : LvB P w K mg fa tb base T W k) : LvA P w K mg fa tb base T W (k + 1) := by
  intro a L f fn hf
  letI : Pw := pwA P w mg fa tb a L
  obtain ⟨st, x, qual, fa1, fd, hm, F, B, S, q, hmk⟩ := (h.st f fn hf).ex
  have ok := lvA_succ h hA hB a L hf F S q hmk
  unfold chkD at q
  simp only [Bool.and_eq_true, decide_eq_true_eq, List.all_eq_true, Bool.not_eq_true'] at q
  obtain ⟨⟨⟨q1, q2⟩, q3⟩, q4⟩ := q
  have hpl : (fnP fn).length = fn.ps := by unfold fnP fnN; rw [List.length_take, List.length_map]; omega
  exact ⟨⟨fa1, fd, fnP fn, hm, F.kp, B, hpl, ok⟩, q4⟩
theorem mem_lk {α β : Type} [BEq α] [LawfulBEq α] : ∀ {l : List (α × β)} {a : α} {b : β}, l.lookup a = some b → (a, b) ∈ l
  | [], _, _, h => by simp at h
  | (x, y) :: r, a, b, h => by
    rw [List.lookup] at h
    cases q : a == x with
    | true => rw [q] at h; cases h; rw [eq_of_beq q]; exact List.mem_cons_self
    | false => rw [q] at h; exact List.mem_cons_of_mem _ (mem_lk h)
theorem lkR_some {α β : Type} [BEq α] [LawfulBEq α] : ∀ {l : List (α × β)} {r : α × β}, r ∈ l → ∃ b, l.lookup r.1 = some b
  | (x, y) :: q, r, h => by
    rw [List.lookup]
    cases e : r.1 == x with
    | true => exact ⟨y, rfl⟩
    | false =>
      rcases List.mem_cons.mp h with z | z
      · rw [z] at e; simp at e
      · exact lkR_some z
theorem pures_app : ∀ {a b : List D}, D.pures a = true → D.pures b = true → D.pures (a ++ b) = true
  | [], _, _, h => h
  | d :: r, b, h, g => by
    simp only [D.pures, Bool.and_eq_true, List.cons_append] at h ⊢
    exact ⟨h.1, pures_app h.2 g⟩
/-- what an inner def promises that changes the dict it is given -/
def LvD (P : Program) (w : World) (K : PySem.W.Frag) (mg : Str → Option Value) (fa : Nat → Addr) (tb : List (Addr × Str)) (base : Heap) (T : Tb) (W k : Nat) : Prop :=
  letI : Pw := pwA P w mg fa tb 0 []
  ∀ (cid : Nat) (sc : Scope) (name : Str) (params : Arguments) (body : List Stmt) (scope : Scope) (pos : Pos) (q : Str) (cl : List (Str × Addr)) (c' : Addr) (cells : List (Addr × Obj)) (vs' : List V) (xs : List D) (a : Addr) (h0 : Heap) (Hm : Hp),
    chdOf T.zero cid sc (.FunctionDef name params body [] none [] scope none name pos) = true → CellsAt cl (T.cli cid).2 (vs'.map some) h0 Hm → (∀ b o, cells.lookup b = some o → h0.get? b = some o) → (∀ y c, cl.lookup y = some c → ∃ o, cells.lookup c = some o) →
    ∀ (A : Around) (outer : List Env) (s : Shared) (H1 H : Hp) (us : List Value) (v0 : V) (p : Addr) (d0 : D) (ks : List Ky) (ds : List D) (Q : VK), Room k A → Env0 P w K mg base A outer s H → H a = some (FnO a ⟨name, q, params, body, scope, cl, c'⟩) → H c' = some (CodeO c' q) → Fz H1 cells → Fz H cells → Tabs tb H1 → Same H1 H →
      Vals [v0, .ref p] us → H1 p = none → d0.pure = true → D.pures ds = true → Rp K H (fun _ => False) d0 v0 → Rb K H (fun _ => False) (.dk ks ds) (.ref p) → D.pures xs = true → Rps K H (fun _ => False) xs vs' →
      Run (dkR (run T.ev W k (4000000 + cid) ([d0, .dk ks ds] ++ xs))) (fun d => ∀ v H', Same H1 H' → NwT K H1 H' (fun _ => False) d v → Q v H') (fun _ => False) →
      codeAny (model P w) A (.call (.ref a) ⟨us, []⟩) (CR (L2.CX P w) outer P w H s Q fun _ _ _ => False) s
theorem fnO_frz {f b : Addr} {F : NF} {o : Obj} : FnO f F ≠ .frz o (.own b) := fun z => by unfold FnO at z; cases z
theorem lvD_succ {k : Nat} (h : HypL P w K mg fa tb base T cs) (hA : LvA P w K mg fa tb base T W k) : LvD P w K mg fa tb base T W (k + 1) := by
  letI : Pw := pwA P w mg fa tb 0 []
  intro cid sc name params body scope pos q cl c' cells vs' xs a h0 Hm hch CA hc0 hcl A outer s H1 H us v0 p d0 ks ds Q hr e0 hfa hco fz1 fz ht sm rv hp pd pv rd rb px rx rn
  unfold chdOf at hch
  dsimp only at hch
  split at hch
  case h_2 => cases hch
  rename_i na nb fn hpl hfn
  simp only [Bool.and_eq_true, decide_eq_true_eq] at hch
  obtain ⟨⟨⟨⟨⟨⟨⟨q1, q2⟩, q3⟩, q4⟩, q5⟩, q6⟩, q7⟩, q8⟩ := hch
  have hfn' : T.ev (4000000 + cid) = some fn := hfn
  have S : NScope (fnN fn) [na, nb] (T.cli cid).2 scope := nscope_by q6
  have hcl2 : (T.cli cid).2.length = vs'.length := by have := CA.len; rw [List.length_map] at this; exact this.symm
  have hxl := rx.len
  have len : ([d0, D.dk ks ds] ++ xs).length = fn.ps := by
    have q2' : fn.ps = 2 + (T.cli cid).2.length := q2
    rw [List.length_append, hxl, q2', hcl2]; rfl
  have hne : na ≠ nb := by
    have hnd := S.nd.sublist (List.take_sublist ([na, nb].length + (T.cli cid).2.length) (fnN fn))
    rw [S.pre] at hnd
    have := (List.nodup_cons.mp hnd).1
    intro z
    exact this (by rw [z]; simp)
  rw [run_fn' hfn'] at rn
  obtain ⟨d, hev, hdk, hk9⟩ : ∃ d, runB (run T.ev W k) W fn ([d0, D.dk ks ds] ++ xs) = .ok d ∧ (∃ ks' vs2, d = .dk ks' vs2 ∧ D.pures vs2 = true) ∧ ∀ v H', Same H1 H' → NwT K H1 H' (fun _ => False) d v → Q v H' := by
    cases hev : runB (run T.ev W k) W fn ([d0, D.dk ks ds] ++ xs) with
    | no => rw [hev] at rn; exact rn.elim
    | exc x => rw [hev] at rn; exact rn.elim
    | ok d =>
      rw [hev] at rn
      cases d with
      | dk ks' vs2 =>
        simp only [dkR] at rn
        cases hv : D.pures vs2 with
        | false => rw [hv] at rn; exact rn.elim
        | true => rw [hv] at rn; exact ⟨_, rfl, ⟨ks', vs2, rfl, hv⟩, rn⟩
      | _ => exact rn.elim
  obtain ⟨ks', vs2, rfl, pv2⟩ := hdk
  have e1 := env0_rm e0 fz
  have gone : ∀ y c, cl.lookup y = some c → rmC H cells c = none := fun y c e => by
    obtain ⟨o, ho⟩ := hcl y c e
    exact rmC_in ho
  have CA2 : CellsAt cl (T.cli cid).2 (vs'.map some) s.heap (rmC H cells) := cells_move CA (fun y c e o ho => by
    obtain ⟨o', ho'⟩ := hcl y c e
    have := hc0 c o' ho'
    rw [ho] at this
    cases this
    exact hok_fz e0.hok fz c o ho') gone
  have hk : ∀ a o, K.lookup a = some o → cells.lookup a = none := fun a o e => by
    cases z : cells.lookup a with
    | none => rfl
    | some o' =>
      have := (e0.bs a o (e0.mod.kin a o e)).2
      rw [fz a o' z] at this
      cases this
  have hp2 : rmC H1 cells p = none := by
    cases z : cells.lookup p with
    | none => rw [rmC_out z]; exact hp
    | some o => exact rmC_in z
  have sm2 := same_rm2 fz1 fz sm
  have rb2 : Rb K (rmC H cells) (fun _ => False) (.dk ks ds) (.ref p) := by
    obtain ⟨b, kvs, f1, f2, f3, f4, f5, f6, f7⟩ := rb
    cases f1
    have c0 := fz.out f2 fun o z => nomatch z
    exact ⟨_, kvs, rfl, by rw [rmC_out c0]; exact f2, f3, f4, f5, f6, Rps.rm fz hk _ _ pv f7⟩
  have rd2 := Rp.rm fz hk d0 v0 pd rd
  have rx2 := Rps.rm fz hk xs vs' px rx
  have afz : rmC H cells a = some (FnO a ⟨name, q, params, body, scope, cl, c'⟩) := by rw [rmC_out (fz.out hfa fun o => fnO_frz)]; exact hfa
  have cfz : rmC H cells c' = some (CodeO c' q) := by rw [rmC_out (fz.out hco fun o z => by unfold CodeO at z; cases z)]; exact hco
  let ρ : Rho := ([d0, D.dk ks ds] ++ xs).map some ++ List.replicate (fn.names.length - fn.ps) none
  have hsl : ∀ i, (start (fnN fn) ([v0, .ref p] ++ vs'))[i]? = ([v0, V.ref p] ++ vs')[i]?.map some ∨ ∀ v, (start (fnN fn) ([v0, .ref p] ++ vs'))[i]? ≠ some (some v) := fun i => by
    by_cases hi : i < ([v0, V.ref p] ++ vs').length
    · refine .inl ?_
      unfold L2.start
      rw [List.getElem?_append_left (by rw [List.length_map]; exact hi), List.getElem?_map]
    · refine .inr fun v e => ?_
      have := start_get e
      rw [List.getElem?_eq_none (by omega)] at this
      cases this
  have m1 : ∀ i, fn.M.contains i = true → i = 1 := fun i hi => by
    rw [q4] at hi
    simpa using hi
  have ow : Ow (fun _ => False) fn.M (start (fnN fn) ([v0, .ref p] ++ vs')) = fun b => b = p := by
    funext b
    apply propext
    constructor
    · rintro (z | ⟨i, hi, e⟩)
      · exact z.elim
      · have := m1 i hi
        subst this
        have := start_get e
        simp at this
        exact this.symm
    · rintro rfl
      refine .inr ⟨1, by rw [q4]; rfl, ?_⟩
      rfl
  have env : EnvOk K (rmC H1 cells) (fun _ => False) fn.M [] (start (fnN fn) ([v0, .ref p] ++ vs')) (rmC H cells) ρ := by
    refine ⟨?_, sm2, fun a z => z.elim, fun i e hi => ?_, fun i b hi e => ?_, fun i j b hi hj _ _ => (m1 i hi).trans (m1 j hj).symm, (fun p hp => nomatch hp), ⟨tabs_rm fz1 ht, fun p hp => nomatch hp⟩⟩
    · show (start (fnN fn) ([v0, .ref p] ++ vs')).length = ρ.length
      unfold L2.start
      have q2' : fn.ps = 2 + (T.cli cid).2.length := q2
      simp only [ρ, fnN, List.length_append, List.length_map, List.length_replicate, List.length_cons, List.length_nil]
      omega
    · rw [ow]
      have hi' : ([d0, D.dk ks ds] ++ xs)[i]? = some e := by
        by_cases hlt : i < ([d0, D.dk ks ds] ++ xs).length
        · simp only [ρ] at hi
          rw [List.getElem?_append_left (by rw [List.length_map]; exact hlt), List.getElem?_map] at hi
          rw [List.getElem?_eq_getElem hlt] at hi ⊢
          simpa using hi
        · simp only [ρ] at hi
          rw [List.getElem?_append_right (by rw [List.length_map]; omega), List.getElem?_replicate] at hi
          split at hi <;> cases hi
      match i, hi' with
      | 0, hi' =>
        simp at hi'
        subst hi'
        refine ⟨v0, rfl, fun _ => Rp.pureO _ _ pd rd2, fun z => ?_⟩
        have := m1 0 z
        omega
      | 1, hi' =>
        simp at hi'
        subst hi'
        refine ⟨.ref p, rfl, fun z => ?_, fun _ => ⟨?_, rfl⟩⟩
        · rw [q4] at z; cases z
        · obtain ⟨b, kvs, f1, f2, f3, f4, f5, f6, f7⟩ := rb2
          exact ⟨b, kvs, f1, f2, f3, f4, f5, f6, Rps.pureO _ _ pv f7⟩
      | i + 2, hi' =>
        have hx : xs[i]? = some e := by simpa using hi'
        obtain ⟨v, ev, rv2⟩ := rx2.get hx
        have pe : e.pure = true := by
          have := List.mem_of_getElem? hx
          have hall : ∀ (l : List D), D.pures l = true → ∀ d ∈ l, d.pure = true := by
            intro l
            induction l with
            | nil => intro _ d hd; cases hd
            | cons x r ih =>
              intro hl d hd
              simp only [D.pures, Bool.and_eq_true] at hl
              rcases List.mem_cons.mp hd with z | z
              · rw [z]; exact hl.1
              · exact ih hl.2 d z
          exact hall xs px e this
        refine ⟨v, ?_, fun _ => Rp.pureO _ _ pe rv2, fun z => ?_⟩
        · unfold L2.start
          rw [List.getElem?_append_left (by rw [List.length_map]; have := (List.getElem?_eq_some_iff.mp ev).1; simp; omega), List.getElem?_map]
          simp [ev]
        · have := m1 _ z
          omega
    · have := m1 i hi
      subst this
      have eb := start_get e
      simp at eb
      subst eb
      exact ⟨hp2, _, rfl⟩
  have nk : NOk P w K mg base (L2.CX P w) (k + 1) a ⟨name, q, params, body, scope, cl, c'⟩ [na, nb] (T.cli cid).2 (fun ws vs H2 Q2 E2 => ws = vs'.map some ∧ vs = [v0, .ref p] ∧ H2 = rmC H cells ∧ Q2 = (fun v H' => Same (rmC H1 cells) H' ∧ NwT K (rmC H1 cells) H' (fun _ => False) (.dk ks' vs2) v) ∧ E2 = fun _ _ _ => False) := by
    refine nok_of (N := fnN fn) S (fun doc pm ctv us hu => ?_) (fun ws vs H2 Q2 E2 z => by rw [z.2.1]; rfl) (fun A2 outer2 s2 H2 vs ws Q2 E2 hr2 f2 c2 _ z => ?_)
    · match us, hu with
      | [u1, u2], _ => exact bind2 hpl hne
    · obtain ⟨rfl, rfl, rfl, rfl, rfl⟩ := z
      have cx : CxOk T.zero (cK K T W (fun _ _ _ => False) k) k (defSta fn scope) (ncx (L2.CX P w) P w K mg base (fnN fn) ⟨name, q, params, body, scope, cl, c'⟩ a A2 outer2 s2 (rmC H cells) fun _ _ _ => False) :=
        { hK := rfl, hP := rfl, hw := rfl, hmg := rfl, hN := rfl, nd := S.nd, sc := rfl, calm := rfl, room := hr2, pass := passF, fn := fun x z => (nomatch z), bl := h.bl,
          gl := fun p hp => (by obtain ⟨v, u, g1, g2, g3⟩ := h.gl p hp; exact ⟨v, u, g1, g2, g3 _⟩),
          fns := fun f' fn' e => ⟨(hA 0 [] f' fn' e).at_, (hA 0 [] f' fn' e).db⟩, frf := rfl, fad := (h.x 0 []).fad, dom := fun f ds h6 _ hq => run_dom h.ev (by omega) hq, no9 := h.no9,
          cl := .inl fun ds => run_dom h.ev (by omega) fun fn hf => (by rw [h.no9] at hf; cases hf), cw := .inl fun ds => run_dom h.ev (by omega) fun fn hf => (by rw [h.no8] at hf; cases hf), tak := fun z => (by rcases z with ⟨_, _, _, z⟩ | ⟨_, _, _, z⟩ <;> cases z), chl := fun _ _ _ z => (nomatch z), chd := fun _ _ _ _ _ _ _ z => (nomatch z), mkr := fun _ z => (nomatch z),
          xr := rfl, xok := (h.x 0 []).xok, xnm := (h.x 0 []).xnm, x0 := (h.x 0 []).x0 }
      refine ⟨_, sndSs (W := W) fn.body _ _ _ body cx S.kind ⟨passes_of rfl, rfl, rfl, takes_of rfl rfl rfl rfl⟩ q8, ?_⟩
      rw [startF_eq]
      unfold runB at hev
      rw [if_pos len] at hev
      obtain ⟨fl, hfl, hfe⟩ := bind_ok hev
      refine ⟨rmC H1 cells, fun _ => False, [], ρ, (fun a z => z.elim), env, ?_⟩
      show Run (exs (run T.ev W k) W fn.M fn.body ρ) _ _
      rw [show exs (run T.ev W k) W fn.M fn.body ρ = .ok fl from hfl]
      cases fl with
      | nx ρ => cases hfe
      | bk ρ => cases hfe
      | ct ρ => cases hfe
      | rt d =>
        cases hfe
        exact fun v H' s' _ hn => ⟨s', hn q5 rfl⟩
  have z := nk.run A outer s (rmC H cells) us [v0, .ref p] (vs'.map some) _ _ hr e1 afz cfz CA2 rv ⟨rfl, rfl, rfl, rfl, rfl⟩
  refine cr_map z fun u s' hq => ce_mono (ce_ad e0 fz hq) fun v H' ⟨H2, eH, nz, s1, r1⟩ => ?_
  subst eH
  refine hk9 v _ (same_ad fz1 nz s1) ?_
  obtain ⟨b, eb, hb, f⟩ := r1
  obtain ⟨b', kvs, f1, f2, f3, f4, f5, f6, f7⟩ := f
  have ext := adC_ext nz
  refine ⟨b, eb, ?_, b', kvs, f1, ext _ _ f2, f3, f4, f5, f6, Rps.step (Stp.same (Same.of ext)) _ _ (Rps.pureO _ _ pv2 f7)⟩
  rw [f1] at eb
  cases eb
  cases c0 : cells.lookup b with
  | none => rw [rmC_out c0] at hb; exact hb
  | some o =>
    have := nz b o c0
    rw [f2] at this
    cases this
theorem dkR_nx {m : R D} {x : Xc} : dkR m ≠ .exc x := by
  unfold dkR
  split
  · split <;> exact fun z => nomatch z
  · exact fun z => nomatch z
theorem dkR_ok {m : R D} {d : D} (h : dkR m = .ok d) : ∃ ks vs, d = .dk ks vs ∧ D.pures vs = true := by
  unfold dkR at h
  split at h
  · split at h
    · rename_i hp; cases h; exact ⟨_, _, rfl, hp⟩
    · cases h
  · cases h
theorem conA_inv {xs : List D} (h : conA xs = true) : ∃ d0 ks vs, xs = [d0, .dk ks vs] ∧ d0.pure = true ∧ D.pures vs = true := by
  unfold conA at h
  split at h
  · simp only [Bool.and_eq_true] at h
    exact ⟨_, _, _, rfl, h.1, h.2⟩
  · cases h
theorem cloF_8 (F : Nat → List D → R D) (cid : Nat) (xs ys : List D) : cloF F cid xs 1999998 ys = if conA ys then dkR (F (4000000 + cid) (ys ++ xs)) else .no := by
  unfold cloF
  rw [if_neg (by omega), if_pos rfl]
theorem cloF_8nx (F : Nat → List D → R D) (cid : Nat) (xs ys : List D) (x : Xc) : cloF F cid xs 1999998 ys ≠ .exc x := by
  rw [cloF_8]
  split
  · exact dkR_nx
  · exact fun z => nomatch z
theorem cloF_8ok {F : Nat → List D → R D} {cid : Nat} {xs ys : List D} {d : D} (h : cloF F cid xs 1999998 ys = .ok d) : (∃ d0 ks vs, ys = [d0, .dk ks vs] ∧ d0.pure = true ∧ D.pures vs = true) ∧ ∃ ks vs, d = .dk ks vs ∧ D.pures vs = true := by
  rw [cloF_8] at h
  split at h
  · rename_i hc; exact ⟨conA_inv hc, dkR_ok h⟩
  · cases h
/-- the tables' closures of the other kind are none -/
theorem run_none (h : HypL P w K mg fa tb base T cs) {f : Nat} (hf : 3000000 ≤ f) (hn : T.ev f = none) (h2 : T.ev (f - 2000000) = none) (k : Nat) (ys : List D) : run T.ev W k f ys = .no := by
  cases k with
  | zero => rfl
  | succ k =>
    show (match T.ev f with | some fn => runB (run T.ev W k) W fn ys | none => tkR (run T.ev W k) T.ev W f ys) = _
    rw [hn]
    show tkR _ _ _ _ _ = _
    unfold tkR
    rw [if_neg (by omega), h2]
theorem tak_core {k : Nat} (h : HypL P w K mg fa tb base T cs) (hA : LvA P w K mg fa tb base T W k) (hB : LvB P w K mg fa tb base T W k) {a0 : Addr} {L0 : List (Addr × HO)} {g : Nat} {fn : Fn} (hf : T.fn g = some fn) {st : Stmt} {x qual : Str} {fa1 : Addr} {fd : FuncData}
    (F : Fun K x qual st fa1 fd) (B : Binds K fd (fnP fn) []) (S : FnScope (fnN fn) (fnP fn) (defScope st)) (q : chkD T fn st = true) (hmk : ∀ nm, fn.mkr = some nm → ∃ p ∈ cs, fd.code = .ref p.1 ∧ (p.2, lamQ qual (defScope st) nm) ∈ tb ∧ ∀ r ∈ tb, r.1 = p.2 → r.2 = lamQ qual (defScope st) nm)
    {A : Around} {outer : List Env} {s : Shared} {H : Hp} {us : List Value} {vs : List V} {ds : List D} {cid : Nat} {a : Addr} {xs : List D} {Q : VK} (hr : Room (k + 1) A) (e0 : Env0 P w K mg base A outer s H) (rv : Vals vs us) (pd : D.pures ds = true) (rps : @Rps (pwA P w mg fa tb a0 L0) K H (fun _ => False) ds vs) (hl : ds.length + 1 = fn.ps)
    {cells : List (Addr × Obj)} (fre : Fre base outer s H cells) {L : List (Addr × HO)} (am1 : @Amb (pwA P w mg fa tb a L) (adC H cells))
    (cl : letI : Pw := pwA P w mg fa tb a L; (∀ ds, cloF (run T.ev W k) cid xs 999999 ds = .no) ∨ CloP P w mg base { K := K, F := cloF (run T.ev W k) cid xs, frf := frT T, xr := xrP T.xr, wish := E0 } k)
    (cw : letI : Pw := pwA P w mg fa tb a L; (∀ ds, cloF (run T.ev W k) cid xs 1999998 ds = .no) ∨ CloW P w mg base { K := K, F := cloF (run T.ev W k) cid xs, frf := frT T, xr := xrP T.xr, wish := E0 } k)
    {d : D} (hev : runB (cloF (run T.ev W k) cid xs) W fn (ds ++ [D.adr 999999 none]) = .ok d) (hdp : d.pure = true) (hk9 : ∀ v H', @Same (pwA P w mg fa tb a0 L0) H H' → @Rp (pwA P w mg fa tb a0 L0) K H' (fun _ => False) d v → Q v H') :
    codeAny (model P w) A (.call (.ref fa1) ⟨us ++ [.ref a], []⟩) (CR (L2.CX P w) outer P w H s Q fun _ _ _ => False) s := by
  unfold chkD at q
  simp only [Bool.and_eq_true, decide_eq_true_eq, List.all_eq_true, Bool.not_eq_true'] at q
  obtain ⟨⟨⟨q1, q2⟩, q3⟩, q4⟩ := q
  have hpl : (fnP fn).length = fn.ps := by unfold fnP fnN; rw [List.length_take, List.length_map]; omega
  have kin : K.In base := e0.mod.kin
  have hk : ∀ a o, K.lookup a = some o → cells.lookup a = none := fun a o e => by
    cases z : cells.lookup a with
    | none => rfl
    | some o' =>
      have := fre.nb a o' z
      rw [kin a o e] at this
      cases this
  letI : Pw := pwA P w mg fa tb a L
  have e1 : Env0 P w K mg base A outer s (adC H cells) := env0_ad e0 fre
  have ext := adC_ext fre.nz
  let c1 : Cn := { K := K, F := cloF (run T.ev W k) cid xs, frf := frT T, xr := xrP T.xr, wish := E0 }
  have F1 : ∀ f, f ≠ 999999 → f ≠ 1999998 → cloF (run T.ev W k) cid xs f = run T.ev W k f := fun f hf hf8 => by
    funext ys
    unfold cloF
    rw [if_neg hf, if_neg hf8]
  have ok : FnOk P w K mg base (L2.CX P w) (k + 1) fa1 fd (fnP fn) (fun vs2 H2 Q2 _ => ∃ ys : List D, Amb H2 ∧ Rps K H2 (fun _ => False) ys vs2 ∧ ys.length = fn.ps ∧ Run (runB (cloF (run T.ev W k) cid xs) W fn ys) (fun d => ∀ v H', Same H2 H' → Rp K H' (fun _ => False) d v → Q2 v H') (fun _ => False)) := by
    refine Fun.okC F S (fun vs2 H2 Q2 E2 ⟨ys, am, r, hl, _⟩ => by rw [← r.len, hl, hpl]) (fun A2 outer2 s2 H2 vs2 Q2 E2 hr2 ⟨ys, am, r, hl2, rn2⟩ => ?_)
    have cx : CxOk T { c1 with wish := E2 } k (fnSta fn (defScope st)) (cxOf (L2.CX P w) P w K mg base (fnN fn) qual (defScope st) fa1 fd.code A2 outer2 s2 H2 E2) :=
      { hK := rfl, hP := rfl, hw := rfl, hmg := rfl, hN := rfl, nd := S.nd, sc := rfl, calm := rfl, room := hr2, pass := passes_call (takes_of rfl rfl rfl rfl) (fun _ _ _ _ z => z), fn := fun _ _ => rfl, bl := h.bl,
        gl := fun p hp => (by obtain ⟨v, u, g1, g2, g3⟩ := h.gl p hp; exact ⟨v, u, g1, g2, g3 _⟩),
        fns := fun f' fn' e => fnat_F (c := cK K T W E0 k) rfl (F1 f' (h.ne9 e) (h.ne8 e)) rfl rfl (hA a L f' fn' e), frf := rfl, fad := (h.x a L).fad, dom := fun f ds h6 h9 hq => by
          show cloF (run T.ev W k) cid xs f ds = .no
          rw [F1 f h9 (by omega)]
          exact run_dom h.ev (by omega) hq
        no9 := h.no9, cl := cl, cw := cw.imp id fun z => ⟨z, cloF_8nx _ _ _, fun ds d z => cloF_8ok z⟩, tak := fun _ g' fn' e => takp_F (c := cK K T W E0 k) rfl (F1 _ (by omega) (by omega)) (hB a L g' fn' e), chl := h.chl, chd := chdh h, mkr := mkr_of h hmk rfl rfl rfl rfl,
        xr := rfl, xok := (h.x a L).xok, xnm := (h.x a L).xnm, x0 := (h.x a L).x0 }
    refine ⟨_, sndSs (W := W) fn.body _ _ _ (defBody st) cx S.kind ⟨passes_of rfl, rfl, rfl, takes_of rfl rfl rfl rfl⟩ q1, ?_⟩
    unfold runB at rn2
    rw [if_pos hl2] at rn2
    refine ⟨H2, fun _ => False, [], _, (fun a z => z.elim), env_start (fun i hi => q2 i hi) hl2 q3 (fun a z => z.elim) am r, (Run.bind.mp rn2).mono (fun fl hfl => ?_) fun x z => z.elim⟩
    cases fl with
    | nx ρ => exact fun σ' H' env' => hfl .non H' env'.base rfl
    | rt d => exact fun v H' s' rv hn => hfl v H' s' rv
    | bk ρ => exact hfl.elim
    | ct ρ => exact hfl.elim
  have KX : K.In s.heap := kin.keeps fun b o e => (e0.bs b o e).1
  have rvA : Vals (vs ++ [V.ref a]) (us ++ [Value.ref a]) := rv.append (.cons rfl .nil)
  have hvl := @Rps.len (pwA P w mg fa tb a0 L0) _ _ _ _ _ rps
  have lenU : (us ++ [Value.ref a]).length = (fnP fn).length := by rw [← rvA.length, List.length_append, ← hvl, hpl]; exact hl
  have hbd := B s (us ++ [Value.ref a]) KX (by rw [List.append_nil]; exact lenU)
  rw [List.append_nil] at hbd
  have rpsA : Rps K (adC H cells) (fun _ => False) (ds ++ [D.adr 999999 none]) (vs ++ [V.ref a]) := by
    refine (Rps.step (Stp.same (Same.of ext)) _ _ (Rps.pw ds vs pd rps)).append (Rps.cons ?_ Rps.nil)
    simp only [Rp]
    refine ⟨?_, fun p e => nomatch e⟩
    unfold adOf
    rw [if_neg (by omega)]
    show V.ref a = V.ref (if 999999 = 999999 then a else fa 999999)
    rw [if_pos rfl]
  have z := ok.run A outer s (adC H cells) ⟨us ++ [.ref a], []⟩ (us ++ [.ref a]) (vs ++ [.ref a]) (fun v H1 => Same (adC H cells) H1 ∧ Rp K H1 (fun _ => False) d v) (fun _ _ _ => False) hr e1 hbd rvA ⟨ds ++ [D.adr 999999 none], am1, rpsA, by rw [List.length_append]; exact hl, by rw [hev]; exact fun v H' s' rv => ⟨s', rv⟩⟩
  refine cr_map z fun u s' hq => ce_mono (ce_rm fre hq) fun v H' ⟨H1, eH, fz, s1, r1⟩ => ?_
  subst eH
  exact hk9 v _ (@Same.pw (pwA P w mg fa tb a L) (pwA P w mg fa tb a0 L0) rfl _ _ (same_rm fre.nz fz s1)) (@Rp.pw K _ (pwA P w mg fa tb a L) (pwA P w mg fa tb a0 L0) _ _ d v hdp (Rp.rm fz hk d v hdp r1))
theorem amb_of {H : Hp} {a c' : Addr} {o1 o2 : HO} {cells : List (Addr × Obj)} {Sx L : List (Addr × HO)} {outer : List Env} {s : Shared} (hL : L = (a, o1) :: (c', o2) :: ((cells.map fun p => (p.1, HO.frz p.2 (.own p.1))) ++ Sx)) (ht : Tabs tb H) (ext : ∀ b u, H b = some u → adC H cells b = some u) (fre : Fre base outer s H cells)
    (h1 : NT o1 ∧ H a = some o1) (h2 : NT o2 ∧ H c' = some o2) (sx1 : ∀ p ∈ Sx, NT p.2 ∧ H p.1 = some p.2) : @Amb (pwA P w mg fa tb a L) (adC H cells) := by
  letI : Pw := pwA P w mg fa tb a L
  refine ⟨ht.ext ext, fun p hp => ?_⟩
  have hp : p ∈ L := hp
  rw [hL] at hp
  rcases List.mem_cons.mp hp with z | hp
  · rw [z]; exact ⟨h1.1, ext _ _ h1.2⟩
  · rcases List.mem_cons.mp hp with z | hp
    · rw [z]; exact ⟨h2.1, ext _ _ h2.2⟩
    · rcases List.mem_append.mp hp with z | z
      · obtain ⟨r, hr, rfl⟩ := List.mem_map.mp z
        refine ⟨(fun _ z => nomatch z), ?_⟩
        obtain ⟨o, ho⟩ := lkR_some hr
        have g1 := fre.at_ r.1 o ho
        have g2 : s.heap.get? r.1 = some r.2 := fre.mem r hr
        rw [g1] at g2
        cases g2
        exact adC_in ho
      · exact ⟨(sx1 p z).1, ext _ _ (sx1 p z).2⟩
theorem lvB_succ {k : Nat} (h : HypL P w K mg fa tb base T cs) (hA : LvA P w K mg fa tb base T W k) (hB : LvB P w K mg fa tb base T W k) (hC : LvC P w K mg fa tb base T W k) (hD : LvD P w K mg fa tb base T W k) : LvB P w K mg fa tb base T W (k + 1) := by
  intro a0 L0 g fn hf
  obtain ⟨st, x, qual, fa1, fd, hm, F, B, S, q, hmk⟩ := (h.st g fn hf).ex
  have q3 : fn.ps ≤ fn.names.length := by
    unfold chkD at q
    simp only [Bool.and_eq_true, decide_eq_true_eq] at q
    exact q.1.2
  have hpl : (fnP fn).length = fn.ps := by unfold fnP fnN; rw [List.length_take, List.length_map]; omega
  show @TakP (pwA P w mg fa tb a0 L0) T P w mg base (@cK (pwA P w mg fa tb a0 L0) K T W E0 (k + 1)) (k + 1) g fn
  refine ⟨fa1, fd, fnP fn, hm, F.kp, B, hpl, fun A outer s H us vs ds cid a xs Q hr e0 rv pd rps hl px cf ht rn => ?_⟩
  have e0 : Env0 P w K mg base A outer s H := e0
  have hgl := h.lt hf
  have ev2 : T.ev (2000000 + g) = none := by rw [h.ev _ (by omega)]; exact h.no1 _ (by omega)
  have rn' : Run (pureR (run T.ev W (k + 1) (2000000 + g) (ds ++ [D.dt [] (.int cid :: xs)]))) _ _ := rn
  rw [run_tk ev2 (h.evf hf)] at rn'
  obtain ⟨d, hev, hdp, hk9⟩ : ∃ d, runB (cloF (run T.ev W k) cid xs) W fn (ds ++ [D.adr 999999 none]) = .ok d ∧ d.pure = true ∧ ∀ v H', @Same (pwA P w mg fa tb a0 L0) H H' → @Rp (pwA P w mg fa tb a0 L0) K H' (fun _ => False) d v → Q v H' := by
    cases hev : runB (cloF (run T.ev W k) cid xs) W fn (ds ++ [D.adr 999999 none]) with
    | no => rw [hev] at rn'; exact rn'.elim
    | exc x => rw [hev] at rn'; exact rn'.elim
    | ok d =>
      rw [hev] at rn'
      simp only [pureR] at rn'
      cases hdp : d.pure with
      | false => rw [hdp] at rn'; exact rn'.elim
      | true => rw [hdp] at rn'; exact ⟨d, rfl, hdp, rn'⟩
  rcases cf with cf | cf
  · obtain ⟨sc, params, body, scope, lpos, qn, cl, pm, c', ctv, cells, vs', hch, hfa, hco, CA, rcs, fre, hcl⟩ := cf
    have ev4 : cid < 1000 ∧ T.ev (4000000 + cid) = none := by
      unfold chlOf at hch
      dsimp only at hch
      split at hch
      case h_2 => cases hch
      rename_i p fn' hp hfn
      split at hch
      case h_2 => cases hch
      simp only [Bool.and_eq_true, decide_eq_true_eq] at hch
      exact h.c1 cid hch.1.1.1.1.1.1
    obtain ⟨Sx, sx1, sx2⟩ := @Rps.sup K H (pwA P w mg fa tb a0 L0) _ xs vs' px rcs
    have Lh : ∃ L : List (Addr × HO), L = (a, .frz (lamObj qn params body scope cl pm c' ctv) (.own a)) :: (c', CodeO c' qn) :: ((cells.map fun p => (p.1, HO.frz p.2 (.own p.1))) ++ Sx) := ⟨_, rfl⟩
    obtain ⟨L, hL⟩ := Lh
    letI : Pw := pwA P w mg fa tb a L
    have ext := adC_ext fre.nz
    have sup_fz : ∀ H1 : Hp, Amb H1 → H1 a = some (.frz (lamObj qn params body scope cl pm c' ctv) (.own a)) ∧ H1 c' = some (CodeO c' qn) ∧ Fz H1 cells ∧ ∀ p ∈ Sx, H1 p.1 = some p.2 := fun H1 am => by
      have z := am.2
      have z : ∀ p ∈ L, NT p.2 ∧ H1 p.1 = some p.2 := z
      rw [hL] at z
      refine ⟨(z _ List.mem_cons_self).2, (z _ (List.mem_cons_of_mem _ List.mem_cons_self)).2, fun b o e => ?_, fun p hp => (z p (List.mem_cons_of_mem _ (List.mem_cons_of_mem _ (List.mem_append_right _ hp)))).2⟩
      exact (z (b, .frz o (.own b)) (List.mem_cons_of_mem _ (List.mem_cons_of_mem _ (List.mem_append_left _ (List.mem_map.mpr ⟨(b, o), mem_lk e, rfl⟩))))).2
    let c1 : Cn := { K := K, F := cloF (run T.ev W k) cid xs, frf := frT T, xr := xrP T.xr, wish := E0 }
    have cloP : CloP P w mg base c1 k := by
      refine ⟨1, fun ys hy => ?_, fun ys x => ?_, fun s1 H1 ok am => ?_, fun A1 outer1 s1 H1 us1 vs1 Q1 hr1 e01 rv1 sp1 => ?_⟩
      · show cloF (run T.ev W k) cid xs 999999 ys = .no
        unfold cloF
        rw [if_pos rfl]
        cases hpy : D.pures ys with
        | false => rfl
        | true =>
          rw [if_pos rfl]
          cases k with
          | zero => rfl
          | succ k =>
            unfold chlOf at hch
            dsimp only at hch
            split at hch
            case h_2 => cases hch
            rename_i p fn' hp hfn
            split at hch
            case h_2 => cases hch
            rename_i e hbody
            simp only [Bool.and_eq_true, decide_eq_true_eq] at hch
            obtain ⟨⟨⟨⟨⟨⟨p1, p2⟩, p3⟩, p4⟩, p5⟩, p6⟩, p7⟩ := hch
            have hfn' : T.ev (3000000 + cid) = some fn' := hfn
            have hcl2 : (T.cli cid).2.length = vs'.length := by have := CA.len; rw [List.length_map] at this; exact this.symm
            have p2' : fn'.ps = 1 + (T.cli cid).2.length := p2
            have hxl := @Rps.len (pwA P w mg fa tb a0 L0) _ _ _ _ _ rcs
            rw [run_fn' hfn']
            unfold runB
            rw [if_neg (by rw [List.length_append, p2']; omega)]
            rfl
      · show cloF (run T.ev W k) cid xs 999999 ys ≠ _
        unfold cloF
        rw [if_pos rfl]
        cases D.pures ys with
        | false => exact fun z => nomatch z
        | true =>
          rw [if_pos rfl]
          intro z
          cases hm : run T.ev W k (3000000 + cid) (ys ++ xs) with
          | ok d =>
            rw [hm] at z
            simp only [pureR] at z
            split at z <;> cases z
          | exc x => rw [hm] at z; cases z
          | no => rw [hm] at z; cases z
      · have := (ok a _ (sup_fz H1 am).1).1
        exact ⟨_, _, _, _, this⟩
      · obtain ⟨Oc, ys, al, am, rps1, hl1, rn1⟩ := sp1
        have rn2 : Run (cloF (run T.ev W k) cid xs 999999 ys) _ _ := rn1
        unfold cloF at rn2
        rw [if_pos rfl] at rn2
        cases hpy : D.pures ys with
        | false => rw [hpy] at rn2; exact rn2.elim
        | true =>
          rw [hpy, if_pos rfl] at rn2
          obtain ⟨f1, f2, f3, f4⟩ := sup_fz H1 am
          have rcs1 : @Rps (pwA P w mg fa tb 0 []) K H1 (fun _ => False) xs vs' := sx2 _ H1 _ f4
          have z := hC cid sc params body scope lpos qn cl pm c' ctv cells vs' xs a s.heap H hch CA fre.at_ hcl A1 outer1 s1 H1 us1 vs1 ys Q1 hr1 e01 f1 f2 f3 am.1 rv1 hpy (Rps.pw ys vs1 hpy rps1) px rcs1 hl1 (run_pureR' rn2 fun d hd kk v H' s' rv => kk v H' (@Same.pw (pwA P w mg fa tb 0 []) (pwA P w mg fa tb a L) rfl _ _ s') (@Rp.pw K H' (pwA P w mg fa tb 0 []) (pwA P w mg fa tb a L) _ _ d v hd rv) fun z => ?_)
          · exact z
          · have : frT T 999999 = false := by unfold frT; rw [h.no9]
            rw [show c1.frf = frT T from rfl, this] at z
            cases z
    have am1 : Amb (adC H cells) := amb_of (tb := tb) (L := L) hL ht ext fre ⟨(fun _ z => nomatch z), hfa⟩ ⟨codeO_NT, hco⟩ sx1
    refine tak_core (cells := cells) (L := L) h hA hB hf F B S q hmk hr e0 rv pd rps hl fre am1 (.inr cloP) (.inl fun ys => ?_) hev hdp hk9
    rw [cloF_8]
    split
    · rw [run_none h (by omega) ev4.2 (by have := ev4.1; rw [h.ev _ (by omega)]; exact h.no1 _ (by omega))]; rfl
    · rfl
  · obtain ⟨sc, name, params, body, scope, fpos, qn, cl, c', cells, vs', hch0, hfa, hco, CA, rcs, fre, hcl⟩ := cf
    have hch := h.chd _ _ _ hch0
    have ev3 : cid < 1000 ∧ T.ev (3000000 + cid) = none := by
      unfold chdOf at hch
      dsimp only at hch
      split at hch
      case h_2 => cases hch
      rename_i na nb fn' hp hfn
      simp only [Bool.and_eq_true, decide_eq_true_eq] at hch
      exact h.c2 cid hch.1.1.1.1.1.1.1
    obtain ⟨Sx, sx1, sx2⟩ := @Rps.sup K H (pwA P w mg fa tb a0 L0) _ xs vs' px rcs
    have Lh : ∃ L : List (Addr × HO), L = (a, FnO a ⟨name, qn, params, body, scope, cl, c'⟩) :: (c', CodeO c' qn) :: ((cells.map fun p => (p.1, HO.frz p.2 (.own p.1))) ++ Sx) := ⟨_, rfl⟩
    obtain ⟨L, hL⟩ := Lh
    letI : Pw := pwA P w mg fa tb a L
    have ext := adC_ext fre.nz
    have sup_fz : ∀ H1 : Hp, Amb H1 → H1 a = some (FnO a ⟨name, qn, params, body, scope, cl, c'⟩) ∧ H1 c' = some (CodeO c' qn) ∧ Fz H1 cells ∧ ∀ p ∈ Sx, H1 p.1 = some p.2 := fun H1 am => by
      have z := am.2
      have z : ∀ p ∈ L, NT p.2 ∧ H1 p.1 = some p.2 := z
      rw [hL] at z
      refine ⟨(z _ List.mem_cons_self).2, (z _ (List.mem_cons_of_mem _ List.mem_cons_self)).2, fun b o e => ?_, fun p hp => (z p (List.mem_cons_of_mem _ (List.mem_cons_of_mem _ (List.mem_append_right _ hp)))).2⟩
      exact (z (b, .frz o (.own b)) (List.mem_cons_of_mem _ (List.mem_cons_of_mem _ (List.mem_append_left _ (List.mem_map.mpr ⟨(b, o), mem_lk e, rfl⟩))))).2
    let c1 : Cn := { K := K, F := cloF (run T.ev W k) cid xs, frf := frT T, xr := xrP T.xr, wish := E0 }
    have cloW : CloW P w mg base c1 k := by
      refine ⟨fun s1 H1 ok am => ?_, fun A1 outer1 s1 H1 H2 us1 v0 p d0 ks ds1 Q1 hr1 e01 rv1 am sm hp pd0 pv rd rb rn1 => ?_⟩
      · obtain ⟨od, sl, doc, pm, ctv, ho⟩ := fnO_at ok (sup_fz H1 am).1
        exact ⟨_, _, _, _, ho⟩
      · have rn2 : Run (cloF (run T.ev W k) cid xs 1999998 [d0, .dk ks ds1]) _ _ := rn1
        rw [cloF_8] at rn2
        have hcA : conA [d0, .dk ks ds1] = true := by simp [conA, pd0, pv]
        rw [if_pos hcA] at rn2
        obtain ⟨f1, f2, f3, f4⟩ := sup_fz H1 am
        have am2 := sm.amb am
        obtain ⟨g1, g2, g3, g4⟩ := sup_fz H2 am2
        have rcs1 : @Rps (pwA P w mg fa tb 0 []) K H2 (fun _ => False) xs vs' := sx2 _ H2 _ g4
        have rb1 : @Rb (pwA P w mg fa tb 0 []) K H2 (fun _ => False) (.dk ks ds1) (.ref p) := by
          obtain ⟨b, kvs, z1, z2, z3, z4, z5, z6, z7⟩ := rb
          exact ⟨b, kvs, z1, z2, z3, z4, z5, z6, Rps.pw _ _ pv z7⟩
        refine hD cid sc name params body scope fpos qn cl c' cells vs' xs a s.heap H hch CA fre.at_ hcl A1 outer1 s1 H1 H2 us1 v0 p d0 ks ds1 Q1 hr1 e01 g1 g2 f3 g3 am.1 (@Same.pw (pwA P w mg fa tb a L) (pwA P w mg fa tb 0 []) rfl _ _ sm) rv1 hp pd0 pv (Rp.pw _ _ pd0 rd) rb1 px rcs1 ?_
        cases hR : dkR (run T.ev W k (4000000 + cid) ([d0, .dk ks ds1] ++ xs)) with
        | no => rw [hR] at rn2; exact rn2.elim
        | exc x => exact absurd hR dkR_nx
        | ok dd =>
          rw [hR] at rn2
          obtain ⟨ks2, vs2, rfl, pv2⟩ := dkR_ok hR
          intro v H' s' nw
          refine rn2 v H' (@Same.pw (pwA P w mg fa tb 0 []) (pwA P w mg fa tb a L) rfl _ _ s') ?_
          obtain ⟨b, eb, hb, b', kvs, z1, z2, z3, z4, z5, z6, z7⟩ := nw
          exact ⟨b, eb, hb, b', kvs, z1, z2, z3, z4, z5, z6, @Rps.pw K H' (pwA P w mg fa tb 0 []) (pwA P w mg fa tb a L) _ _ _ _ pv2 z7⟩
    have am1 : Amb (adC H cells) := amb_of (tb := tb) (L := L) hL ht ext fre ⟨fnO_NT, hfa⟩ ⟨codeO_NT, hco⟩ sx1
    refine tak_core (cells := cells) (L := L) h hA hB hf F B S q hmk hr e0 rv pd rps hl fre am1 (.inl fun ys => ?_) (.inr cloW) hev hdp hk9
    unfold cloF
    rw [if_pos rfl]
    split
    · rw [run_none h (by omega) ev3.2 (by have := ev3.1; rw [h.ev _ (by omega)]; exact h.no1 _ (by omega))]; rfl
    · rfl
theorem lv_all (h : HypL P w K mg fa tb base T cs) : ∀ k, LvA P w K mg fa tb base T W k ∧ LvB P w K mg fa tb base T W k ∧ LvC P w K mg fa tb base T W k ∧ LvD P w K mg fa tb base T W k
  | 0 => by
    refine ⟨fun a L f fn hf => ?_, fun a L g fn hf => ?_, ?_, ?_⟩
    · letI : Pw := pwA P w mg fa tb a L
      obtain ⟨st, x, qual, fa1, fd, hm, F, B, S, q, hmk⟩ := (h.st f fn hf).ex
      unfold chkD at q
      simp only [Bool.and_eq_true, decide_eq_true_eq, List.all_eq_true, Bool.not_eq_true'] at q
      obtain ⟨⟨⟨q1, q2⟩, q3⟩, q4⟩ := q
      have hpl : (fnP fn).length = fn.ps := by unfold fnP fnN; rw [List.length_take, List.length_map]; omega
      have no : ∀ vs H Q E, ¬ spD (cK K T W E0 0) fn.ps f vs H Q E := fun vs H Q E ⟨Oc, ds, al, am, r, hl, rn⟩ => rn
      exact ⟨⟨fa1, fd, fnP fn, hm, F.kp, B, hpl, ⟨fun vs H Q E z => (no _ _ _ _ z).elim, fun A outer s H args us vs Q E _ _ _ _ z => (no _ _ _ _ z).elim⟩⟩, q4⟩
    · letI : Pw := pwA P w mg fa tb a L
      obtain ⟨st, x, qual, fa1, fd, hm, F, B, S, q, hmk⟩ := (h.st g fn hf).ex
      unfold chkD at q
      simp only [Bool.and_eq_true, decide_eq_true_eq, List.all_eq_true, Bool.not_eq_true'] at q
      obtain ⟨⟨⟨q1, q2⟩, q3⟩, q4⟩ := q
      have hpl : (fnP fn).length = fn.ps := by unfold fnP fnN; rw [List.length_take, List.length_map]; omega
      exact ⟨fa1, fd, fnP fn, hm, F.kp, B, hpl, fun A outer s H us vs ds cid a xs Q hr e0 rv pd rps hl px cf ht rn => rn.elim⟩
    · intro cid sc params body scope lpos q cl pm c' ctv cells vs' xs a h0 H0 hch CA hc0 hcl A outer s H us vs ds Q hr e0 hfa hco fz ht rv pd rd px rx hl rn
      exact rn.elim
    · intro cid sc name params body scope pos q cl c' cells vs' xs a h0 Hm hch CA hc0 hcl A outer s H1 H us v0 p d0 ks ds Q hr e0 hfa hco fz1 fz ht sm rv hp pd pv rd rb px rx rn
      exact rn.elim
  | k + 1 => by
    obtain ⟨hA, hB, hC, hD⟩ := lv_all h k
    exact ⟨lvA_at h hA hB, lvB_succ h hA hB hC hD, lvC_succ h hA hB, lvD_succ h hA⟩
theorem okS_dec {s : List Nat} (h : (decide (s.length ≤ LIM) && s.all (fun c => decide (c < 0x110000))) = true) : okS s := by
  simp only [Bool.and_eq_true, decide_eq_true_eq, List.all_eq_true] at h
  exact h
/-- a law's promise -/
theorem law_at {l : PySem.W.OpenLaw} {k f : Nat} {fn : Fn} {st : Stmt} {x : Str} {fa1 : Addr} {fd : FuncData} {h : Heap} (hyp : ∀ base : Heap, K.In base → base.Ns mainGlobals mg → (∀ p ∈ cs, TabB base mg p.1 p.2) → HypL l.prog w K mg fa tb base T cs) (hf : T.fn f = some fn) (hp1 : fn.ps = 1) (hpx : fnP fn = [("script" : Str)])
    (F : Fun K x x st fa1 fd) (S : FnScope (fnN fn) (fnP fn) (defScope st)) (q : chkD T fn st = true) (hmk : fn.mkr = none) (hb : ∀ (s : Shared) (u : Value), BindsTo s fd ⟨[u], []⟩ [("script", u)])
    (hT : ∀ p ∈ cs, h.get? p.2 = some { cls := .none, data := .fields #[] }) (nT : ∀ p ∈ cs, K.lookup p.2 = none) (hC : ∀ p ∈ cs, PySem.W.CodeHd h p.1 p.2) (ht : ∀ p ∈ tb, ∃ r ∈ cs, r.2 = p.1)
    (hrun : ∀ ns : List Int, ns.length ≤ 63 → run T.ev W (k + 1) f [.scr ns] = .ok (.bl true)) : LawAtS l w K (L2.CX l.prog w) (k + 1) 63 "script" mg fa1 h := by
  letI : Pw := pwA l.prog w mg fa tb 0 []
  refine ⟨fd, cs, spD (cK K T W E0 (k + 1)) 1 f, hT, nT, hC, hb, fun H a ns hl _ hH hS => ?_, fun base kin ns TB => ?_⟩
  · refine ⟨fun _ => False, [.scr ns], fun a z => z.elim, ⟨fun p hp => ?_, fun p hp => nomatch hp⟩, Rps.cons ?_ Rps.nil, rfl, ?_⟩
    · obtain ⟨r, hr, e⟩ := ht p hp
      have := hH r hr
      rw [e] at this
      exact TabS.nil this
    · simp only [Rp]
      refine ⟨a, rfl, ?_, Nat.le_trans hl (by decide)⟩
      rcases hS with (h | ⟨o, h⟩) | h
      · exact .inr ⟨fun z => z, h⟩
      · exact .inl (.inl ⟨o, h⟩)
      · exact .inl (.inr h)
    · show Run (run T.ev W (k + 1) f [.scr ns]) _ _
      rw [hrun ns hl]
      intro v H' _ rv _
      exact rv
  · have hy := hyp base kin ns TB
    obtain ⟨hA, hB, _⟩ := lv_all (W := W) hy k
    have z := lvA_succ hy hA hB 0 [] hf F S q (fun nm z => by rw [hmk] at z; cases z)
    rw [hpx, hp1] at z
    exact z
theorem mkSt {h : Heap} (X : K.In h) (G : h.Ns mainGlobals mg) {fn : Fn} {st : Stmt} {x : Str} {f1 : Addr} {oc : Value} {od an : Option Addr} {sl : Array (Option Value)} {kV dc pm cd ct : Value} (hx : toS fn.name = x)
    (a : PySem.W.nsIn K mainGlobals x = some (some (.ref f1))) (l : K.lookup f1 = some ⟨oc, od, .func (PySem.W.fnOf x x (defArgs st) (defBody st) (defScope st) .none kV dc pm an cd ct), sl⟩) (c : PySem.W.codeIn K cd x = true) (kp : PySem.W.keepIn K (.ref f1) = true)
    (B : ∀ (kV doc pm : Value) (an : Option Addr) (cdv ct : Value) (us : List Value), us.length = (fnP fn).length → bindArgs (PySem.W.fnOf x x (defArgs st) (defBody st) (defScope st) .none kV doc pm an cdv ct) ⟨us, []⟩ = pure ((fnP fn).zip us))
    (S : FnScope (fnN fn) (fnP fn) (defScope st)) (q : chkD T fn st = true) (hmk : ∀ nm, fn.mkr = some nm → ∃ p ∈ cs, cd = .ref p.1 ∧ (p.2, lamQ x (defScope st) nm) ∈ tb ∧ ∀ r ∈ tb, r.1 = p.2 → r.2 = lamQ x (defScope st) nm) : FnSt T K mg tb cs fn := by
  have F := fun_mk (st := st) l c kp
  exact ⟨st, x, x, f1, _, by rw [hx]; exact PySem.W.mg_of X G a, F, F.binds B, S, q, hmk⟩
theorem cx_no {H : Hp} {s : Shared} {e : Value} {s' : Shared} (h : L2.CX P w [] H s (fun _ _ _ => False) e s') : False := by
  obtain ⟨_, _, _, _, _, _, _, _, _, _, _, _, z⟩ := h
  exact z
/-- the addresses of defs and of own errors' classes, by the module's names -/
def adM : Option Value → Addr
  | some (.ref a) => a
  | _ => 0
def faOf (T : Tb) (mg : Str → Option Value) (n : Nat) : Addr := match T.fn n with
  | some fn => adM (mg (toS fn.name))
  | none => adM (mg (toS (xNm (n - 900000))))
theorem fad_of (hst : ∀ f fn, T.fn f = some fn → FnSt T K mg tb cs fn) : ∀ f fn, T.fn f = some fn → mg (toS fn.name) = some (.ref (faOf T mg f)) := by
  intro f fn h
  obtain ⟨st, x, qual, fa, fd, hm, _⟩ := (hst f fn h).ex
  unfold faOf
  rw [h]
  dsimp only
  rw [hm]
  rfl
theorem xC_of {b : Nat} {a0 : Addr} {L : List (Addr × HO)} {a : Addr} (hT : T.fn (900000 + b) = none) (hb : b < 99999) (hm : mg (toS (xNm b)) = some (.ref a)) : @xC (pwA P w mg (faOf T mg) tb a0 L) b = a := by
  show (if 900000 + b = 999999 then a0 else faOf T mg (900000 + b)) = a
  rw [if_neg (by omega)]
  unfold faOf
  rw [hT]
  dsimp only
  rw [show 900000 + b - 900000 = b by omega, hm]
  rfl
theorem fadA (hst : ∀ f fn, T.fn f = some fn → FnSt T K mg tb cs fn) (n9 : T.fn 999999 = none) (a0 : Addr) : ∀ f fn, T.fn f = some fn → mg (toS fn.name) = some (.ref (if f = 999999 then a0 else faOf T mg f)) := fun f fn h => by
  rw [if_neg (fun z => by rw [z, n9] at h; cases h)]
  exact fad_of hst f fn h
/-- no own errors -/
theorem xok0 (hr : T.xr = []) (hn : T.xn = []) (n9 : T.fn 999999 = none) (hst : ∀ f fn, T.fn f = some fn → FnSt T K mg tb cs fn) (a0 : Addr) (L : List (Addr × HO)) : @XOk (pwA P w mg (faOf T mg) tb a0 L) T K :=
  letI : Pw := pwA P w mg (faOf T mg) tb a0 L
  ⟨fadA hst n9 a0, (fun b hb => by rw [hr] at hb; cases hb), (fun b hb => by rw [hn] at hb; cases hb), fun z => absurd hr z⟩
end
/-- the end of a law, with the tables of its defs at hand -/
theorem walk_T {l : PySem.W.OpenLaw} {n k : Nat} {q : Program} {loose : List Str} {XP : (Str → Option Value) → Heap → Prop} {YP : World → Heap → Prop} {d : DefRec} {K : Params → PySem.W.Frag} {CX : World → CXT} {x : Str}
    (hn : l.most = some n) (hn2 : n ≤ sizeLine) (hdf : d.params.defaults = []) (hr : Room k callerA) (hY : ∀ (w : World) (h : Heap), YP w h → (K w.params).In h)
    (F : ∀ (w : World) (mg : Str → Option Value) (fa : Addr) (h : Heap), (K w.params).In h → h.Ns mainGlobals mg → mg d.name = some (.ref fa) →
      (∀ (y : Str) (e : DefRec) (c P : Addr), (PyProof.Rows.recsOf q).find? (fun e => e.name == y) = some e → PySem.W.tabIn (K w.params) y = some (c, P) → PySem.W.CodeHd h c P ∧ h.get? P = some { cls := .none, data := .fields #[] }) → LawAtS l w (K w.params) (CX w) k n x mg fa h)
    (hCX : ∀ (w : World) (H : Hp) (s : Shared) (e : Value) (s' : Shared), CX w [] H s (fun _ _ _ => False) e s' → False) : PySem.W.WalkO q loose XP YP l.row.toRowW d [] (fun f vs => PySem.call f vs) := by
  refine Att.attach_callB hn hdf fun w s₀ s₁ mg mb fa o pm cd doc a vs ns G Y ho hd hcd hmg hobj hints hlen hbits hg => ?_
  have kx := hY w _ Y
  obtain ⟨fd, cs, sp, t1, t2, t3, t4, t5, t6⟩ := F w mg fa _ kx G.T.g hmg fun y e c P e1 e2 => PySem.W.tab_of G.T kx e1 e2
  exact law_callTs kx G.T.g G.T.b G.T.builtins G.T.nolimit hg t1 t2 t3 G.T.bmain hobj hints (Nat.le_trans hlen hn2) hr t6 t4 (fun H z1 z2 => t5 H a ns hlen hbits z1 z2) fun H e s' => hCX w H s₁ e s'
end MT
end
section
set_option Elab.async false
set_option linter.all false
set_option maxRecDepth 100000
/-! MtS: the evaluator, step by step (for simp). -/
namespace MT
section
variable {F : Nat → List D → R D} {ρ : Rho}
@[simp] theorem ev_var {i : Nat} : ev F (.var i) ρ = ofO (ρ.getD i none) := rfl
@[simp] theorem ev_cst {d : D} : ev F (.cst d) ρ = .ok d := rfl
@[simp] theorem ev_glb {x : List Nat} {d : D} : ev F (.glb x d) ρ = .ok d := rfl
@[simp] theorem ev_tup {es : List E} : ev F (.tup es) ρ = (do let ds ← evs F es ρ; .ok (.tup ds)) := rfl
@[simp] theorem ev_lst {es : List E} : ev F (.lst es) ρ = (do let ds ← evs F es ρ; .ok (.lst ds)) := rfl
@[simp] theorem ev_dk0 : ev F .dk0 ρ = .ok (.dk [] []) := rfl
@[simp] theorem ev_dt0 : ev F .dt0 ρ = .ok (.dt [] []) := rfl
@[simp] theorem ev_bin {op : Op2} {a b : E} : ev F (.bin op a b) ρ = (do let x ← ev F a ρ; let y ← ev F b ρ; op2D op x y) := rfl
@[simp] theorem ev_neg {a : E} : ev F (.neg a) ρ = (do let x ← ev F a ρ; negD x) := rfl
@[simp] theorem ev_cmp {op : Cm} {a b : E} : ev F (.cmp op a b) ρ = (do let x ← ev F a ρ; let y ← ev F b ρ; let c ← cmD op x y; .ok (.bl c)) := rfl
@[simp] theorem ev_chn {o1 o2 : Cm} {a b c : E} : ev F (.chn o1 o2 a b c) ρ = (do
      let x ← ev F a ρ
      let y ← ev F b ρ
      let k ← cmD o1 x y
      if k then (do let z ← ev F c ρ; let q ← cmD o2 y z; .ok (.bl q)) else .ok (.bl false)) := rfl
@[simp] theorem ev_and {es : List E} : ev F (.and es) ρ = (do let b ← evAnd F es ρ; .ok (.bl b)) := rfl
@[simp] theorem ev_or {es : List E} : ev F (.or es) ρ = (do let b ← evOr F es ρ; .ok (.bl b)) := rfl
@[simp] theorem ev_not {a : E} : ev F (.not a) ρ = (do let x ← ev F a ρ; let b ← blO x; .ok (.bl (!b))) := rfl
@[simp] theorem ev_ite {c a b : E} : ev F (.ite c a b) ρ = (do let k ← tst F c ρ; if k then ev F a ρ else ev F b ρ) := rfl
@[simp] theorem ev_idx {a b : E} : ev F (.idx a b) ρ = (do let x ← ev F a ρ; let y ← ev F b ρ; idxD x y) := rfl
@[simp] theorem ev_sli {a lo hi : E} : ev F (.sli a lo hi) ρ = (do
      let x ← ev F a ρ
      let l ← (if lo.abs then .ok none else (do let y ← ev F lo ρ; endD y))
      let h ← (if hi.abs then .ok none else (do let y ← ev F hi ρ; endD y))
      sliD x l h) := rfl
@[simp] theorem ev_call {f : Nat} {es : List E} : ev F (.call f es) ρ = (do let ds ← evs F es ρ; F f ds) := rfl
@[simp] theorem ev_blt {b : Bl} {a : E} : ev F (.blt b a) ρ = (do let x ← ev F a ρ; bltD b x) := rfl
@[simp] theorem ev_mth {m : Mth} {o a : E} : ev F (.mth m o a) ρ = (do let x ← ev F o ρ; let s ← strO x; let y ← ev F a ρ; mthD m s y) := rfl
@[simp] theorem ev_get {o k x : E} : ev F (.get o k x) ρ = (do let a ← ev F o ρ; let p ← dkO a; let b ← ev F k ρ; let c ← ev F x ρ; getD3 p b c) := rfl
@[simp] theorem ev_isi {a : E} {t : Ty} : ev F (.isi a t) ρ = (do let x ← ev F a ρ; let b ← isiD x t; .ok (.bl b)) := rfl
/-- an element of a comprehension -/
def elF (F : Nat → List D → R D) (own : List Nat) (tg : Tg) (ifs : List E) (e : E) (ρ : Rho) (d : D) : R (Option D) := do
  let ρ' ← bindT tg d (wipeR ρ own)
  let b ← tsts F ifs ρ'
  if b then (do let x ← ev F e ρ'; .ok (some x)) else .ok none
@[simp] theorem ev_lcS {own : List Nat} {tg : Tg} {it : Ir} {ifs : List E} {e : E} : ev F (.lc own tg it ifs e) ρ = (do let ds ← its F it ρ; let rs ← mapF (elF F own tg ifs e ρ) ds; .ok (.lst rs)) := rfl
@[simp] theorem ev_callb {f : Nat} {es : List E} : ev F (.callb f es) ρ = (do let ds ← evs F es ρ; let d ← F f ds; if d.pure then .ok d else .no) := rfl
@[simp] theorem ev_u1 {u : U1} {a : E} : ev F (.u1 u a) ρ = (do let x ← ev F a ρ; u1D u x) := rfl
@[simp] theorem ev_u2 {u : U2} {a b : E} : ev F (.u2 u a b) ρ = (do let x ← ev F a ρ; let _ ← R.guard (u2G u x); let y ← ev F b ρ; u2D u x y) := rfl
@[simp] theorem u2G_min {x : D} : u2G .min x = true := rfl
@[simp] theorem u2G_tix {xs : List D} : u2G .tix (.tup xs) = true := rfl
@[simp] theorem u2D_min {i j : Int} : u2D .min (.int i) (.int j) = .ok (.int (if j < i then j else i)) := rfl
@[simp] theorem evs_nil : evs F [] ρ = .ok [] := rfl
@[simp] theorem evs_cons {e : E} {r : List E} : evs F (e :: r) ρ = (do let d ← ev F e ρ; let l ← evs F r ρ; .ok (d :: l)) := rfl
@[simp] theorem evAnd_one {e : E} : evAnd F [e] ρ = (do let x ← ev F e ρ; blO x) := rfl
@[simp] theorem evAnd_cons {e e' : E} {r : List E} : evAnd F (e :: e' :: r) ρ = (do let x ← ev F e ρ; let b ← blO x; if b then evAnd F (e' :: r) ρ else .ok false) := rfl
@[simp] theorem evOr_one {e : E} : evOr F [e] ρ = (do let x ← ev F e ρ; blO x) := rfl
@[simp] theorem evOr_cons {e e' : E} {r : List E} : evOr F (e :: e' :: r) ρ = (do let x ← ev F e ρ; let b ← blO x; if b then .ok true else evOr F (e' :: r) ρ) := rfl
@[simp] theorem tst_not {a : E} : tst F (.not a) ρ = (do let b ← tst F a ρ; .ok (!b)) := rfl
@[simp] theorem tst_and {es : List E} : tst F (.and es) ρ = tAnd F es ρ := rfl
@[simp] theorem tst_or {es : List E} : tst F (.or es) ρ = tOr F es ρ := rfl
@[simp] theorem tst_var {i : Nat} : tst F (.var i) ρ = (do let x ← ofO (ρ.getD i none); truth x) := rfl
@[simp] theorem tst_cmp {op : Cm} {a b : E} : tst F (.cmp op a b) ρ = (do let x ← ev F a ρ; let y ← ev F b ρ; cmD op x y) := rfl
@[simp] theorem tst_chn {o1 o2 : Cm} {a b c : E} : tst F (.chn o1 o2 a b c) ρ = (do
      let x ← ev F a ρ
      let y ← ev F b ρ
      let k ← cmD o1 x y
      if k then (do let z ← ev F c ρ; cmD o2 y z) else .ok false) := rfl
@[simp] theorem tst_call {f : Nat} {es : List E} : tst F (.call f es) ρ = (do let ds ← evs F es ρ; let x ← F f ds; truth x) := rfl
@[simp] theorem tst_blt {b : Bl} {a : E} : tst F (.blt b a) ρ = (do let y ← ev F a ρ; let x ← bltD b y; truth x) := rfl
@[simp] theorem tst_isi {a : E} {t : Ty} : tst F (.isi a t) ρ = (do let x ← ev F a ρ; isiD x t) := rfl
@[simp] theorem tAnd_one {e : E} : tAnd F [e] ρ = tst F e ρ := rfl
@[simp] theorem tAnd_cons {e e' : E} {r : List E} : tAnd F (e :: e' :: r) ρ = (do let b ← tst F e ρ; if b then tAnd F (e' :: r) ρ else .ok false) := rfl
@[simp] theorem tOr_one {e : E} : tOr F [e] ρ = tst F e ρ := rfl
@[simp] theorem tOr_cons {e e' : E} {r : List E} : tOr F (e :: e' :: r) ρ = (do let b ← tst F e ρ; if b then .ok true else tOr F (e' :: r) ρ) := rfl
@[simp] theorem tsts_nil : tsts F [] ρ = .ok true := rfl
@[simp] theorem tsts_cons {e : E} {r : List E} : tsts F (e :: r) ρ = (do let b ← tst F e ρ; if b then tsts F r ρ else .ok false) := rfl
@[simp] theorem its_seq {e : E} : its F (.seq e) ρ = (do let x ← ev F e ρ; seqD x) := rfl
@[simp] theorem its_rng1 {e : E} : its F (.rng1 e) ρ = (do let x ← ev F e ρ; rngD (.int 0) x) := rfl
@[simp] theorem its_rng2 {a b : E} : its F (.rng2 a b) ρ = (do let x ← ev F a ρ; let y ← ev F b ρ; rngD x y) := rfl
@[simp] theorem its_enm {e : E} : its F (.enm e) ρ = (do let x ← ev F e ρ; enmD x) := rfl
@[simp] theorem its_zip {a b : E} : its F (.zip a b) ρ = (do let x ← ev F a ρ; let y ← ev F b ρ; zipD x y) := rfl
variable {W : Nat} {M : List Nat}
@[simp] theorem exs_nil : exs F W M [] ρ = .ok (.nx ρ) := rfl
/-- then -/
def thenF (r : Rho → R Fl) : Fl → R Fl
  | .nx ρ' => r ρ'
  | f => .ok f
@[simp] theorem thenF_nx {r : Rho → R Fl} : thenF r (.nx ρ) = r ρ := rfl
@[simp] theorem thenF_rt {r : Rho → R Fl} {d : D} : thenF r (.rt d) = .ok (.rt d) := rfl
@[simp] theorem exs_cons {s : Sm} {r : List Sm} : exs F W M (s :: r) ρ = (do let f ← ex F W M s ρ; thenF (exs F W M r) f) := by
  show (ex F W M s ρ >>= _) = _
  congr 1
@[simp] theorem ex_asg {i : Nat} {e : E} : ex F W M (.asg i e) ρ = (do let d ← ev F e ρ; if M.contains i && !d.mut then .no else .ok (.nx (setR ρ i d))) := rfl
def asgTF (ρ : Rho) (is : List Nat) : D → R Fl
  | .tup xs => do let ρ' ← setsR ρ is xs; .ok (.nx ρ')
  | .lst xs => do let ρ' ← setsR ρ is xs; .ok (.nx ρ')
  | _ => .no
@[simp] theorem ex_asgP {is : List Nat} {es : List E} : ex F W M (.asgP is es) ρ = (do let ds ← evs F es ρ; let ρ' ← setsR ρ is ds; .ok (.nx ρ')) := rfl
@[simp] theorem asgTF_lst {is : List Nat} {xs : List D} : asgTF ρ is (.lst xs) = (do let ρ' ← setsR ρ is xs; .ok (.nx ρ')) := rfl
@[simp] theorem asgTF_tup {is : List Nat} {xs : List D} : asgTF ρ is (.tup xs) = (do let ρ' ← setsR ρ is xs; .ok (.nx ρ')) := rfl
@[simp] theorem ex_asgT {is : List Nat} {e : E} : ex F W M (.asgT is e) ρ = (do let d ← ev F e ρ; asgTF ρ is d) := by
  show (ev F e ρ >>= _) = _
  congr 1
@[simp] theorem ex_ret {e : E} : ex F W M (.ret e) ρ = (do let d ← ev F e ρ; .ok (.rt d)) := rfl
@[simp] theorem ex_ite {c : E} {a b : List Sm} : ex F W M (.ite c a b) ρ = (do let k ← tst F c ρ; if k then exs F W M a ρ else exs F W M b ρ) := rfl
@[simp] theorem ex_for {tg : Tg} {it : Ir} {b : List Sm} : ex F W M (.for_ tg it b) ρ = (do let ds ← its F it ρ; forF (exs F W M b) tg ds ρ) := rfl
@[simp] theorem ex_bad : ex F W M .bad ρ = .no := rfl
@[simp] theorem ex_rai {b : Nat} {a : Option E} : ex F W M (.rai b a) ρ = raiD F b a ρ := rfl
@[simp] theorem ex_tryA {i f j : Nat} {es : List E} {hs : List Hs} : ex F W M (.tryA i f es j hs) ρ = tryD F M i f es j hs ρ := rfl
@[simp] theorem ev_fnv {f : Nat} : ev F (.fnv f) ρ = if f < 1000000 then .ok (.adr f none) else .no := rfl
theorem ev_calvN {i f : Nat} {x : Option (Nat × List Nat)} {es : List E} {ds : List D} (h : ρ.getD i none = some (.adr f x)) (hf : f < 1000000) (e : evs F es ρ = .ok ds) : ev F (.calv i es) ρ = F f ds := by
  show (match ρ.getD i none with | some (.adr f _) => if f < 1000000 then (match evs F es ρ with | .ok ds => F f ds | _ => .no) else .no | _ => .no) = _
  rw [h]
  simp only [hf, if_true, e]
@[simp] theorem rai_none {b : Nat} (h : b ≠ 1) : raiD F b none ρ = .exc ⟨b, none⟩ := by simp [raiD, h]
theorem rai_some {e : E} {s : List Nat} (h : ev F e ρ = .ok (.str s)) : raiD F 1 (some e) ρ = .exc ⟨1, some (.str s)⟩ := by simp [raiD, h]
@[simp] theorem ex_tryT {b : List Sm} : ex F W M (.tryT b) ρ = (exs F W M b ρ).nox := rfl
def forPF (F : Nat → List D → R D) (W : Nat) (M : List Nat) (tg : Tg) (i : Nat) (b : List Sm) (ρ : Rho) : Option D → R Fl
  | some (.lst xs) => match xs.getLast? with
    | some (.tup ds) => forF (exs F W M b) tg ds (setR ρ i (.lst xs.dropLast))
    | _ => .no
  | _ => .no
theorem ex_forP {tg : Tg} {i : Nat} {b : List Sm} : ex F W M (.forP tg i b) ρ = forPF F W M tg i b ρ (ρ.getD i none) := by
  simp only [ex]
  rfl
@[simp] theorem ex_whl {c : E} {b : List Sm} : ex F W M (.whl c b) ρ = whlF (tst F c) (exs F W M b) W ρ := rfl
def appF (ρ : Rho) (i : Nat) (m : R D) : Option D → R Fl
  | some (.lst xs) => do let d ← m; if xs.length < LIM then .ok (.nx (setR ρ i (.lst (xs ++ [d])))) else .no
  | _ => .no
@[simp] theorem appF_lst {i : Nat} {m : R D} {xs : List D} : appF ρ i m (some (.lst xs)) = (do let d ← m; if xs.length < LIM then .ok (.nx (setR ρ i (.lst (xs ++ [d])))) else .no) := rfl
@[simp] theorem ex_app {i : Nat} {e : E} : ex F W M (.app i e) ρ = appF ρ i (ev F e ρ) (ρ.getD i none) := by
  simp only [ex]
  generalize ρ.getD i none = o
  cases o with
  | none => rfl
  | some d => cases d <;> rfl
def extX (ρ : Rho) (i : Nat) (xs : List D) : D → R Fl
  | .lst ys => if xs.length + ys.length ≤ LIM then .ok (.nx (setR ρ i (.lst (xs ++ ys)))) else .no
  | .tup ys => if xs.length + ys.length ≤ LIM then .ok (.nx (setR ρ i (.lst (xs ++ ys)))) else .no
  | _ => .no
@[simp] theorem extX_tup {i : Nat} {xs ys : List D} : extX ρ i xs (.tup ys) = if xs.length + ys.length ≤ LIM then .ok (.nx (setR ρ i (.lst (xs ++ ys)))) else .no := rfl
@[simp] theorem extX_lst {i : Nat} {xs ys : List D} : extX ρ i xs (.lst ys) = if xs.length + ys.length ≤ LIM then .ok (.nx (setR ρ i (.lst (xs ++ ys)))) else .no := rfl
def extF (ρ : Rho) (i : Nat) (m : R D) : Option D → R Fl
  | some (.lst xs) => do let d ← m; extX ρ i xs d
  | _ => .no
@[simp] theorem extF_lst {i : Nat} {m : R D} {xs : List D} : extF ρ i m (some (.lst xs)) = (do let d ← m; extX ρ i xs d) := rfl
@[simp] theorem ex_ext {i : Nat} {e : E} : ex F W M (.ext i e) ρ = extF ρ i (ev F e ρ) (ρ.getD i none) := by
  simp only [ex]
  generalize ρ.getD i none = o
  cases o with
  | none => rfl
  | some d => cases d <;> rfl
def putX (ρ : Rho) (i : Nat) (ks : List Ky) (vs : List D) (d : D) (x : D) : R Fl := match x.ky with
  | some k => if ks.length < LIM then .ok (.nx (setR ρ i (.dk (putK k d ks vs).1 (putK k d ks vs).2))) else .no
  | none => .no
@[simp] theorem putX_str {i : Nat} {ks : List Ky} {vs : List D} {d : D} {s : List Nat} : putX ρ i ks vs d (.str s) = if ks.length < LIM then .ok (.nx (setR ρ i (.dk (putK (.s s) d ks vs).1 (putK (.s s) d ks vs).2))) else .no := rfl
def putY (ρ : Rho) (i : Nat) (ks : List (List Ky)) (d x : D) : R Fl := match kysT x with
  | some k => if ks.length < LIM ∧ d = .bl true then .ok (.nx (setR ρ i (.dt (putT k ks) ((putT k ks).map fun _ => .bl true)))) else .no
  | none => .no
def putF (ρ : Rho) (i : Nat) (d : D) (m : R D) : Option D → R Fl
  | some (.dk ks vs) => do let x ← m; putX ρ i ks vs d x
  | some (.dt ks _) => do let x ← m; putY ρ i ks d x
  | _ => .no
@[simp] theorem putF_dt {i : Nat} {m : R D} {d : D} {ks : List (List Ky)} {vs : List D} : putF ρ i d m (some (.dt ks vs)) = (do let x ← m; putY ρ i ks d x) := rfl
@[simp] theorem putF_dk {i : Nat} {m : R D} {d : D} {ks : List Ky} {vs : List D} : putF ρ i d m (some (.dk ks vs)) = (do let x ← m; putX ρ i ks vs d x) := rfl
@[simp] theorem ex_put {i : Nat} {k e : E} : ex F W M (.put i k e) ρ = (do let d ← ev F e ρ; putF ρ i d (ev F k ρ) (ρ.getD i none)) := by
  simp only [ex]
  congr 1
def popX (ρ : Rho) (i : Nat) (ks : List Ky) (vs : List D) (x : D) : R Fl := match x.ky with
  | some k => .ok (.nx (setR ρ i (.dk (delK k ks vs).1 (delK k ks vs).2)))
  | none => .no
@[simp] theorem popX_str {i : Nat} {ks : List Ky} {vs : List D} {s : List Nat} : popX ρ i ks vs (.str s) = .ok (.nx (setR ρ i (.dk (delK (.s s) ks vs).1 (delK (.s s) ks vs).2))) := rfl
def popF (ρ : Rho) (i : Nat) (m : R D) : Option D → R Fl
  | some (.dk ks vs) => do let x ← m; popX ρ i ks vs x
  | _ => .no
@[simp] theorem popF_dk {i : Nat} {m : R D} {ks : List Ky} {vs : List D} : popF ρ i m (some (.dk ks vs)) = (do let x ← m; popX ρ i ks vs x) := rfl
@[simp] theorem ex_pop {i : Nat} {k : E} : ex F W M (.pop i k) ρ = popF ρ i (ev F k ρ) (ρ.getD i none) := by
  simp only [ex]
  generalize ρ.getD i none = o
  cases o with
  | none => rfl
  | some d => cases d <;> rfl
/-- what a def gives -/
def endF : Fl → R D
  | .rt d => .ok d
  | .nx _ => .ok .non
  | _ => .no
@[simp] theorem endF_rt {d : D} : endF (.rt d) = .ok d := rfl
@[simp] theorem endF_nx : endF (.nx ρ) = .ok .non := rfl
theorem runB_eq {f : Fn} {ds : List D} (h : ds.length = f.ps) : runB F W f ds = (do let r ← exs F W f.M f.body (ds.map some ++ List.replicate (f.names.length - f.ps) none); endF r) := by
  unfold runB
  rw [if_pos h]
  show (exs _ _ _ _ _ >>= _) = _
  congr 1
theorem run_eq {T : Nat → Option Fn} {k f : Nat} {fn : Fn} {ds : List D} (hf : T f = some fn) (h : ds.length = fn.ps) :
    run T W (k + 1) f ds = (do let r ← exs (run T W k) W fn.M fn.body (ds.map some ++ List.replicate (fn.names.length - fn.ps) none); endF r) := by
  show (match T f with | some fn => runB (run T W k) W fn ds | none => tkR (run T W k) T W f ds) = _
  rw [hf]
  exact runB_eq h
end
@[simp] theorem ofO_some {α : Type} (a : α) : ofO (some a) = .ok a := rfl
@[simp] theorem blO_bl (b : Bool) : blO (.bl b) = .ok b := rfl
@[simp] theorem strO_str (s : List Nat) : strO (.str s) = .ok s := rfl
@[simp] theorem dkO_dk (ks : List Ky) (vs : List D) : dkO (.dk ks vs) = .ok (ks, vs) := rfl
@[simp] theorem endD_int (i : Int) : endD (.int i) = .ok (some i) := rfl
@[simp] theorem abs_int (i : Int) : E.abs (.cst (.int i)) = false := rfl
@[simp] theorem abs_bin {o : Op2} {a b : E} : E.abs (.bin o a b) = false := rfl
@[simp] theorem abs_var {i : Nat} : E.abs (.var i) = false := rfl
@[simp] theorem abs_blt {o : Bl} {a : E} : E.abs (.blt o a) = false := rfl
@[simp] theorem abs_call {i : Nat} {a : List E} : E.abs (.call i a) = false := rfl
@[simp] theorem abs_neg {a : E} : E.abs (.neg a) = false := rfl
@[simp] theorem abs_idx {a b : E} : E.abs (.idx a b) = false := rfl
@[simp] theorem abs_non : E.abs (.cst .non) = true := rfl
/-! operations -/
@[simp] theorem isi_non_str  : isiD .non .str = .ok false := rfl
@[simp] theorem isi_bl_str {a : Bool} : isiD (.bl a) .str = .ok false := rfl
@[simp] theorem isi_int_str {i : Int} : isiD (.int i) .str = .ok false := rfl
@[simp] theorem isi_str_str {s : List Nat} : isiD (.str s) .str = .ok true := rfl
@[simp] theorem isi_tup_str {xs : List D} : isiD (.tup xs) .str = .ok false := rfl
@[simp] theorem isi_lst_str {xs : List D} : isiD (.lst xs) .str = .ok false := rfl
@[simp] theorem isi_non_int  : isiD .non .int = .ok false := rfl
@[simp] theorem isi_bl_int {a : Bool} : isiD (.bl a) .int = .ok true := rfl
@[simp] theorem isi_int_int {i : Int} : isiD (.int i) .int = .ok true := rfl
@[simp] theorem isi_str_int {s : List Nat} : isiD (.str s) .int = .ok false := rfl
@[simp] theorem isi_tup_int {xs : List D} : isiD (.tup xs) .int = .ok false := rfl
@[simp] theorem isi_lst_int {xs : List D} : isiD (.lst xs) .int = .ok false := rfl
@[simp] theorem isi_non_bool  : isiD .non .bool = .ok false := rfl
@[simp] theorem isi_bl_bool {a : Bool} : isiD (.bl a) .bool = .ok true := rfl
@[simp] theorem isi_int_bool {i : Int} : isiD (.int i) .bool = .ok false := rfl
@[simp] theorem isi_str_bool {s : List Nat} : isiD (.str s) .bool = .ok false := rfl
@[simp] theorem isi_tup_bool {xs : List D} : isiD (.tup xs) .bool = .ok false := rfl
@[simp] theorem isi_lst_bool {xs : List D} : isiD (.lst xs) .bool = .ok false := rfl
@[simp] theorem isi_non_tuple  : isiD .non .tuple = .ok false := rfl
@[simp] theorem isi_bl_tuple {a : Bool} : isiD (.bl a) .tuple = .ok false := rfl
@[simp] theorem isi_int_tuple {i : Int} : isiD (.int i) .tuple = .ok false := rfl
@[simp] theorem isi_str_tuple {s : List Nat} : isiD (.str s) .tuple = .ok false := rfl
@[simp] theorem isi_tup_tuple {xs : List D} : isiD (.tup xs) .tuple = .ok true := rfl
@[simp] theorem isi_lst_tuple {xs : List D} : isiD (.lst xs) .tuple = .ok false := rfl
@[simp] theorem isi_non_list  : isiD .non .list = .ok false := rfl
@[simp] theorem isi_bl_list {a : Bool} : isiD (.bl a) .list = .ok false := rfl
@[simp] theorem isi_int_list {i : Int} : isiD (.int i) .list = .ok false := rfl
@[simp] theorem isi_str_list {s : List Nat} : isiD (.str s) .list = .ok false := rfl
@[simp] theorem isi_tup_list {xs : List D} : isiD (.tup xs) .list = .ok false := rfl
@[simp] theorem isi_lst_list {xs : List D} : isiD (.lst xs) .list = .ok true := rfl
@[simp] theorem isi_non_intstr  : isiD .non .intstr = .ok false := rfl
@[simp] theorem isi_bl_intstr {a : Bool} : isiD (.bl a) .intstr = .ok true := rfl
@[simp] theorem isi_int_intstr {i : Int} : isiD (.int i) .intstr = .ok true := rfl
@[simp] theorem isi_str_intstr {s : List Nat} : isiD (.str s) .intstr = .ok true := rfl
@[simp] theorem isi_tup_intstr {xs : List D} : isiD (.tup xs) .intstr = .ok false := rfl
@[simp] theorem isi_lst_intstr {xs : List D} : isiD (.lst xs) .intstr = .ok false := rfl
@[simp] theorem tru_non  : truth .non = .ok false := rfl
@[simp] theorem mut_non  : D.mut .non = false := rfl
@[simp] theorem is_non_non  : cmD .is .non .non = .ok true := rfl
@[simp] theorem isn_non_non  : cmD .isn .non .non = .ok false := rfl
@[simp] theorem sc_non  : D.sc .non = true := rfl
@[simp] theorem tru_bl {a : Bool} : truth (.bl a) = .ok a := rfl
@[simp] theorem mut_bl {a : Bool} : D.mut (.bl a) = false := rfl
@[simp] theorem is_non_bl {a : Bool} : cmD .is (.bl a) .non = .ok false := rfl
@[simp] theorem isn_non_bl {a : Bool} : cmD .isn (.bl a) .non = .ok true := rfl
@[simp] theorem sc_bl {a : Bool} : D.sc (.bl a) = true := rfl
@[simp] theorem tru_int {i : Int} : truth (.int i) = .ok (i != 0) := rfl
@[simp] theorem mut_int {i : Int} : D.mut (.int i) = false := rfl
@[simp] theorem is_non_int {i : Int} : cmD .is (.int i) .non = .ok false := rfl
@[simp] theorem isn_non_int {i : Int} : cmD .isn (.int i) .non = .ok true := rfl
@[simp] theorem sc_int {i : Int} : D.sc (.int i) = true := rfl
@[simp] theorem tru_str {s : List Nat} : truth (.str s) = .ok (!s.isEmpty) := rfl
@[simp] theorem mut_str {s : List Nat} : D.mut (.str s) = false := rfl
@[simp] theorem is_non_str {s : List Nat} : cmD .is (.str s) .non = .ok false := rfl
@[simp] theorem isn_non_str {s : List Nat} : cmD .isn (.str s) .non = .ok true := rfl
@[simp] theorem sc_str {s : List Nat} : D.sc (.str s) = true := rfl
@[simp] theorem tru_tup {xs : List D} : truth (.tup xs) = .ok (!xs.isEmpty) := rfl
@[simp] theorem mut_tup {xs : List D} : D.mut (.tup xs) = false := rfl
@[simp] theorem is_non_tup {xs : List D} : cmD .is (.tup xs) .non = .ok false := rfl
@[simp] theorem isn_non_tup {xs : List D} : cmD .isn (.tup xs) .non = .ok true := rfl
@[simp] theorem sc_tup {xs : List D} : D.sc (.tup xs) = false := rfl
@[simp] theorem tru_lst {xs : List D} : truth (.lst xs) = .ok (!xs.isEmpty) := rfl
@[simp] theorem mut_lst {xs : List D} : D.mut (.lst xs) = true := rfl
@[simp] theorem is_non_lst {xs : List D} : cmD .is (.lst xs) .non = .ok false := rfl
@[simp] theorem isn_non_lst {xs : List D} : cmD .isn (.lst xs) .non = .ok true := rfl
@[simp] theorem sc_lst {xs : List D} : D.sc (.lst xs) = false := rfl
@[simp] theorem mut_dk {ks : List Ky} {vs : List D} : D.mut (.dk ks vs) = true := rfl
@[simp] theorem mut_dt {ks : List (List Ky)} {vs : List D} : D.mut (.dt ks vs) = true := rfl
@[simp] theorem is_bl {a b : Bool} : cmD .is (.bl a) (.bl b) = .ok (a == b) := rfl
@[simp] theorem isn_bl {a b : Bool} : cmD .isn (.bl a) (.bl b) = .ok (!(a == b)) := rfl
@[simp] theorem add_int {i j : Int} : op2D .add (.int i) (.int j) = .ok (.int (i + j)) := rfl
@[simp] theorem sub_int {i j : Int} : op2D .sub (.int i) (.int j) = .ok (.int (i - j)) := rfl
@[simp] theorem add_str {a b : List Nat} : op2D .add (.str a) (.str b) = if a.length + b.length ≤ LIM then .ok (.str (a ++ b)) else .no := rfl
@[simp] theorem add_lst {a b : List D} : op2D .add (.lst a) (.lst b) = if a.length + b.length ≤ LIM then .ok (.lst (a ++ b)) else .no := rfl
@[simp] theorem add_tup {a b : List D} : op2D .add (.tup a) (.tup b) = if a.length + b.length ≤ LIM then .ok (.tup (a ++ b)) else .no := rfl
@[simp] theorem mul_int {i j : Int} : op2D .mul (.int i) (.int j) = if small i || small j then .ok (.int (i * j)) else .no := rfl
@[simp] theorem mod_int {i j : Int} : op2D .mod (.int i) (.int j) = if 0 < j then .ok (.int (i % j)) else .no := rfl
@[simp] theorem fdiv_int {i j : Int} : op2D .fdiv (.int i) (.int j) = if 0 < j ∧ j < 1073741824 then .ok (.int (i / j)) else .no := rfl
@[simp] theorem neg_int {i : Int} : negD (.int i) = .ok (.int (-i)) := rfl
@[simp] theorem lt_int {i j : Int} : cmD .lt (.int i) (.int j) = .ok (decide (i < j)) := rfl
@[simp] theorem le_int {i j : Int} : cmD .le (.int i) (.int j) = .ok (decide (i ≤ j)) := rfl
@[simp] theorem gt_int {i j : Int} : cmD .gt (.int i) (.int j) = .ok (decide (j < i)) := rfl
@[simp] theorem ge_int {i j : Int} : cmD .ge (.int i) (.int j) = .ok (decide (j ≤ i)) := rfl
@[simp] theorem lt_str {i j : List Nat} : cmD .lt (.str i) (.str j) = .ok (ltS i j) := rfl
@[simp] theorem le_str {i j : List Nat} : cmD .le (.str i) (.str j) = .ok (!ltS j i) := rfl
@[simp] theorem gt_str {i j : List Nat} : cmD .gt (.str i) (.str j) = .ok (ltS j i) := rfl
@[simp] theorem ge_str {i j : List Nat} : cmD .ge (.str i) (.str j) = .ok (!ltS i j) := rfl
theorem eq_of {a b : D} (h : eqOk a b = true) : cmD .eq a b = .ok (eqD a b) := by simp only [cmD]; rw [if_pos h]
theorem ne_of' {a b : D} (h : eqOk a b = true) : cmD .ne a b = .ok (!eqD a b) := by simp only [cmD]; rw [if_pos h]
@[simp] theorem ne_bl {a b : Bool} : cmD .ne (.bl a) (.bl b) = .ok (!(a == b)) := rfl
@[simp] theorem eq_int {i j : Int} : cmD .eq (.int i) (.int j) = .ok (i == j) := rfl
@[simp] theorem ne_int {i j : Int} : cmD .ne (.int i) (.int j) = .ok (!(i == j)) := rfl
@[simp] theorem eq_str {i j : List Nat} : cmD .eq (.str i) (.str j) = .ok (decide (i = j)) := rfl
@[simp] theorem ne_str {i j : List Nat} : cmD .ne (.str i) (.str j) = .ok (!decide (i = j)) := rfl
@[simp] theorem in_sign {c : Nat} {s : List Nat} : cmD .inn (.str [c]) (.str s) = .ok (decide (c ∈ s)) := rfl
@[simp] theorem nin_sign {c : Nat} {s : List Nat} : cmD .nin (.str [c]) (.str s) = .ok (!decide (c ∈ s)) := rfl
theorem inD_tup (x : D) (xs : List D) : inD x (.tup xs) = if x.sc && xs.all D.sc then .ok (xs.any fun z => eqD z x) else if eqOk x (.tup xs) then .ok (xs.any fun z => eqD z x) else .no := by
  cases x with
  | str w => cases w with
    | nil => rfl
    | cons c w => cases w <;> rfl
  | _ => rfl
theorem inD_lst (x : D) (xs : List D) : inD x (.lst xs) = if x.sc && xs.all D.sc then .ok (xs.any fun z => eqD z x) else .no := by
  cases x with
  | str w => cases w with
    | nil => rfl
    | cons c w => cases w <;> rfl
  | _ => rfl
theorem in_tup {x : D} {xs : List D} (h : x.sc = true) (hs : xs.all D.sc = true) : cmD .inn x (.tup xs) = .ok (xs.any fun z => eqD z x) := by
  show inD x (.tup xs) = _
  rw [inD_tup, if_pos (by rw [h, hs]; rfl)]
theorem in_lst {x : D} {xs : List D} (h : x.sc = true) (hs : xs.all D.sc = true) : cmD .inn x (.lst xs) = .ok (xs.any fun z => eqD z x) := by
  show inD x (.lst xs) = _
  rw [inD_lst, if_pos (by rw [h, hs]; rfl)]
theorem nin_eq {x y : D} {b : Bool} (h : cmD .inn x y = .ok b) : cmD .nin x y = .ok (!b) := by
  have h' : inD x y = .ok b := h
  show (do let x ← inD x y; R.ok (!x)) = _
  rw [h']; rfl
@[simp] theorem in_dk_str {s : List Nat} {ks : List Ky} {vs : List D} : cmD .inn (.str s) (.dk ks vs) = .ok (look (.s s) ks vs).isSome := by
  match s with
  | [] => rfl
  | [_] => rfl
  | _ :: _ :: _ => rfl
@[simp] theorem idx_tup {xs : List D} {i : Int} : idxD (.tup xs) (.int i) = ofO (atO xs i) := rfl
@[simp] theorem idx_lst {xs : List D} {i : Int} : idxD (.lst xs) (.int i) = ofO (atO xs i) := rfl
@[simp] theorem idx_str {s : List Nat} {i : Int} : idxD (.str s) (.int i) = (do let c ← ofO (atO s i); .ok (.str [c])) := rfl
@[simp] theorem idx_scr {s : List Int} {i : Int} : idxD (.scr s) (.int i) = (do let c ← ofO (atO s i); .ok (.int c)) := rfl
@[simp] theorem idx_dk_str {ks : List Ky} {vs : List D} {s : List Nat} : idxD (.dk ks vs) (.str s) = ofO (look (.s s) ks vs) := rfl
@[simp] theorem sli_tup {xs : List D} {l h : Option Int} : sliD (.tup xs) l h = .ok (.tup (cut xs l h)) := rfl
@[simp] theorem sli_lst {xs : List D} {l h : Option Int} : sliD (.lst xs) l h = .ok (.lst (cut xs l h)) := rfl
@[simp] theorem sli_str {xs : List Nat} {l h : Option Int} : sliD (.str xs) l h = .ok (.str (cut xs l h)) := rfl
@[simp] theorem len_tup {xs : List D} : bltD .len (.tup xs) = .ok (.int xs.length) := rfl
@[simp] theorem len_lst {xs : List D} : bltD .len (.lst xs) = .ok (.int xs.length) := rfl
@[simp] theorem len_str {xs : List Nat} : bltD .len (.str xs) = .ok (.int xs.length) := rfl
@[simp] theorem len_scr {xs : List Int} : bltD .len (.scr xs) = .ok (.int xs.length) := rfl
@[simp] theorem all_lst {xs : List D} : bltD .all (.lst xs) = (do let bs ← ofO (bools xs); .ok (.bl (bs.all id))) := rfl
@[simp] theorem any_lst {xs : List D} : bltD .any (.lst xs) = (do let bs ← ofO (bools xs); .ok (.bl (bs.any id))) := rfl
@[simp] theorem tuple_lst {xs : List D} : bltD .tuple (.lst xs) = .ok (.tup xs) := rfl
@[simp] theorem tuple_tup {xs : List D} : bltD .tuple (.tup xs) = .ok (.tup xs) := rfl
@[simp] theorem list_lst {xs : List D} : bltD .list (.lst xs) = .ok (.lst xs) := rfl
@[simp] theorem list_tup {xs : List D} : bltD .list (.tup xs) = .ok (.lst xs) := rfl
@[simp] theorem dict_tup {xs : List D} : bltD .dict (.tup xs) = (do let l ← ofO (dictO xs); .ok (.dk (mkD l [] []).1 (mkD l [] []).2)) := rfl
@[simp] theorem sorted_dk {ks : List Ky} {vs : List D} : bltD .sorted (.dk ks vs) = (do let ss ← ofO (strsO (ks.map kyD)); if ss.length < 64 then .ok (.lst ((sortS ss).map .str)) else .no) := rfl
@[simp] theorem sorted_lst {xs : List D} : bltD .sorted (.lst xs) = (match strsO xs with | some ss => if ss.length < 64 then .ok (.lst ((sortS ss).map .str)) else .no | none => srtT xs) := rfl
@[simp] theorem sorted_tup {xs : List D} : bltD .sorted (.tup xs) = srtT xs := rfl
@[simp] theorem int_bl {b : Bool} : bltD .int (.bl b) = .ok (.int (b2i b)) := rfl
@[simp] theorem int_int {b : Int} : bltD .int (.int b) = .ok (.int b) := rfl
@[simp] theorem abs_intD {i : Int} : bltD .abs (.int i) = .ok (.int (if i < 0 then -i else i)) := rfl
@[simp] theorem seq_tup {xs : List D} : seqD (.tup xs) = .ok xs := rfl
@[simp] theorem seq_lst {xs : List D} : seqD (.lst xs) = .ok xs := rfl
@[simp] theorem seq_str {s : List Nat} : seqD (.str s) = .ok (s.map fun c => .str [c]) := rfl
@[simp] theorem enm_tup {xs : List D} : enmD (.tup xs) = .ok (enumF 0 xs) := rfl
@[simp] theorem list_dk {ks : List Ky} {vs : List D} : bltD .list (.dk ks vs) = .ok (.lst (ks.map kyD)) := rfl
@[simp] theorem str_str {s : List Nat} : bltD .str (.str s) = .ok (.str s) := rfl
@[simp] theorem pow_int {i j : Int} : op2D .pow (.int i) (.int j) = if 0 ≤ j ∧ j ≤ 1000 ∧ i.natAbs < 2 ^ 64 then .ok (.int (i ^ j.toNat)) else .no := rfl
@[simp] theorem sset_lst {xs : List D} : u1D .sset (.lst xs) = ssetX xs := rfl
@[simp] theorem upper_str {s : List Nat} : u1D .upper (.str s) = if s.all (fun c => decide (c < 128)) ∧ s.length ≤ 10000 then .ok (.str (s.map upC)) else .no := rfl
@[simp] theorem add_bi {b : Bool} {j : Int} : op2D .add (.bl b) (.int j) = .ok (.int (b2i b + j)) := rfl
@[simp] theorem sub_bi {b : Bool} {j : Int} : op2D .sub (.bl b) (.int j) = .ok (.int (b2i b - j)) := rfl
@[simp] theorem mul_bi {b : Bool} {j : Int} : op2D .mul (.bl b) (.int j) = .ok (.int (b2i b * j)) := rfl
@[simp] theorem sub_ib {b : Bool} {i : Int} : op2D .sub (.int i) (.bl b) = .ok (.int (i - b2i b)) := rfl
@[simp] theorem ge_tup {xs ys : List D} : cmD .ge (.tup xs) (.tup ys) = getO xs ys := rfl
@[simp] theorem rev_tup {xs : List D} : u1D .rev (.tup xs) = .ok (.tup xs.reverse) := rfl
@[simp] theorem sset_tup {xs : List D} : u1D .sset (.tup xs) = ssetX xs := rfl
@[simp] theorem enm_lst {xs : List D} : enmD (.lst xs) = .ok (enumF 0 xs) := rfl
@[simp] theorem zip_tup {xs ys : List D} : zipD (.tup xs) (.tup ys) = .ok (zipF xs ys) := rfl
@[simp] theorem rng_int {i j : Int} : rngD (.int i) (.int j) = if i.natAbs < 2 ^ 62 ∧ j.natAbs < 2 ^ 62 ∧ (j - i).toNat ≤ LIM then .ok (rngF i (j - i).toNat) else .no := rfl
@[simp] theorem bind_one {i : Nat} {d : D} {ρ : Rho} : bindT (.one i) d ρ = .ok (setR ρ i d) := rfl
@[simp] theorem bind_tup {is : List Nat} {xs : List D} {ρ : Rho} : bindT (.tup is) (.tup xs) ρ = setsR ρ is xs := rfl
@[simp] theorem sets_nil {ρ : Rho} : setsR ρ [] [] = .ok ρ := rfl
@[simp] theorem sets_cons {ρ : Rho} {i : Nat} {d : D} {is : List Nat} {ds : List D} : setsR ρ (i :: is) (d :: ds) = setsR (setR ρ i d) is ds := rfl
@[simp] theorem setR_zero {o : Option D} {ρ : Rho} {d : D} : setR (o :: ρ) 0 d = some d :: ρ := rfl
@[simp] theorem setR_succ {o : Option D} {ρ : Rho} {d : D} {n : Nat} : setR (o :: ρ) (n + 1) d = o :: setR ρ n d := rfl
@[simp] theorem wipe_nil {ρ : Rho} : wipeR ρ [] = ρ := rfl
@[simp] theorem wipe_cons {ρ : Rho} {v : Nat} {vs : List Nat} : wipeR ρ (v :: vs) = (wipeR ρ vs).set v none := rfl
@[simp] theorem join_lst {a : List Nat} {xs : List D} : mthD .join a (.lst xs) = (do
      let ss ← ofO (strsO xs)
      if (ss.map (·.length)).sum + ss.length * a.length ≤ LIM then .ok (.str (joinS a ss)) else .no) := rfl
@[simp] theorem ite_ok {α : Type} {c : Prop} [Decidable c] {a b : α} : (if c then R.ok a else R.ok b) = R.ok (if c then a else b) := by split <;> rfl
@[simp] theorem ite_bl {c : Prop} [Decidable c] {a b : Bool} : (if c then D.bl a else D.bl b) = D.bl (if c then a else b) := by split <;> rfl
theorem small_lit {i : Int} (h : small i = true) : small i = true := h

/-! a for, by what holds between two turns -/
theorem forF_inv {bd : Rho → R Fl} {tg : Tg} {I : Rho → Prop} : ∀ {ds : List D} {ρ : Rho}, I ρ → (∀ d ∈ ds, ∀ ρ, I ρ → ∃ ρ', (bindT tg d ρ >>= bd) = .ok (.nx ρ') ∧ I ρ') → ∃ ρ', forF bd tg ds ρ = .ok (.nx ρ') ∧ I ρ'
  | [], ρ, h, _ => ⟨ρ, rfl, h⟩
  | d :: r, ρ, h, hs => by
    obtain ⟨ρ1, e, h1⟩ := hs d List.mem_cons_self ρ h
    obtain ⟨ρ2, e2, h2⟩ := forF_inv (ds := r) h1 (fun d' hd ρ hρ => hs d' (List.mem_cons_of_mem _ hd) ρ hρ)
    refine ⟨ρ2, ?_, h2⟩
    unfold forF
    cases hb : bindT tg d ρ with
    | ok ρ0 =>
      rw [hb] at e
      simp only [ok_bind] at e ⊢
      rw [e]
      exact e2
    | exc x => rw [hb] at e; cases e
    | no => rw [hb] at e; cases e
/-- one turn of a while -/
theorem whl_go {c : Rho → R Bool} {bd : Rho → R Fl} {n : Nat} {ρ ρ' : Rho} (h : c ρ = .ok true) (hb : bd ρ = .ok (.nx ρ')) : whlF c bd (n + 1) ρ = whlF c bd n ρ' := by
  conv => lhs; unfold whlF
  rw [h]
  simp only [ok_bind, if_true]
  rw [hb]
  rfl
theorem whl_end {c : Rho → R Bool} {bd : Rho → R Fl} {n : Nat} {ρ : Rho} (h : c ρ = .ok false) : whlF c bd (n + 1) ρ = .ok (.nx ρ) := by
  unfold whlF
  rw [h]
  rfl
/-- a mapping without a test -/
theorem mapF_map {f : D → R (Option D)} {g : D → D} : ∀ {ds : List D}, (∀ d ∈ ds, f d = .ok (some (g d))) → mapF f ds = .ok (ds.map g)
  | [], _ => rfl
  | d :: r, h => by
    unfold mapF
    rw [h d List.mem_cons_self, mapF_map (fun x hx => h x (List.mem_cons_of_mem _ hx))]
    rfl
/-- .. with one -/
theorem mapF_filter {f : D → R (Option D)} {p : D → Bool} {g : D → D} : ∀ {ds : List D}, (∀ d ∈ ds, f d = .ok (if p d then some (g d) else none)) → mapF f ds = .ok ((ds.filter p).map g)
  | [], _ => rfl
  | d :: r, h => by
    unfold mapF
    rw [h d List.mem_cons_self, mapF_filter (fun x hx => h x (List.mem_cons_of_mem _ hx))]
    cases hp : p d
    · simp [hp]
    · simp [hp]
theorem bools_map {α : Type} (p : α → Bool) : ∀ l : List α, bools (l.map fun a => .bl (p a)) = some (l.map p)
  | [] => rfl
  | a :: r => by simp [bools, bools_map p r]
theorem strsO_map {α : Type} (p : α → List Nat) : ∀ l : List α, strsO (l.map fun a => .str (p a)) = some (l.map p)
  | [] => rfl
  | a :: r => by simp [strsO, strsO_map p r]
end MT
end

set_option Elab.async false
set_option linter.all false
set_option maxRecDepth 100000
set_option maxHeartbeats 4000000
namespace MT
section
def f_as_book : Fn where
  name := [97, 115, 95, 98, 111, 111, 107]
  names := [[109, 101, 115, 115, 97, 103, 101, 115], [107, 101, 121]]
  ps := 1
  M := []
  fr := false
  body := [
    (.ret (.blt .tuple (.lc [1] (.one 1) (.seq (.blt .sorted (.var 0))) [] (.tup [(.var 1), (.idx (.var 0) (.var 1))]))))]

def f_with_books : Fn where
  name := [119, 105, 116, 104, 95, 98, 111, 111, 107, 115]
  names := [[104, 111, 117, 115, 101], [99, 104, 97, 110, 103, 101], [108, 97, 115, 116], [108, 105, 110, 107, 115], [115, 104, 101, 108, 118, 101, 115], [116, 97, 103], [114, 117, 108, 101, 115], [98, 111, 111, 107]]
  ps := 2
  M := []
  fr := false
  body := [
    (.asgT [2, 3, 4] (.var 0)),
    (.ret (.tup [(.var 2), (.var 3), (.blt .tuple (.lc [5, 6, 7] (.tup [5, 6, 7]) (.seq (.var 4)) [] (.tup [(.var 5), (.var 6), (.call 125 [(.calw 1 [(.var 5), (.blt .dict (.var 7))])])])))]))]

def f_without_key_l0 : Fn where
  name := [99, 104, 97, 110, 103, 101]
  names := [[111, 110, 101], [109, 101, 115, 115, 97, 103, 101, 115], [107, 101, 121]]
  ps := 3
  M := [1]
  fr := true
  body := [
    (.pop 1 (.var 2)),
    (.ret (.var 1))]
def f_without_key : Fn where
  name := [119, 105, 116, 104, 111, 117, 116, 95, 107, 101, 121]
  names := [[104, 111, 117, 115, 101], [107, 101, 121], [99, 104, 97, 110, 103, 101]]
  ps := 2
  M := []
  fr := false
  body := [
    (.retC 126 (.var 0) 0 [1] 2)]
  mkr := some [99, 104, 97, 110, 103, 101]

def f_has_key : Fn where
  name := [104, 97, 115, 95, 107, 101, 121]
  names := [[104, 111, 117, 115, 101], [107, 101, 121], [116, 97, 103], [114, 117, 108, 101, 115], [98, 111, 111, 107]]
  ps := 2
  M := []
  fr := false
  body := [
    (.ret (.blt .any (.lc [2, 3, 4] (.tup [2, 3, 4]) (.seq (.idx (.var 0) (.cst (.int 2)))) [] (.cmp .inn (.var 1) (.blt .dict (.var 4))))))]

def f_moved_l0 : Fn where
  name := [99, 104, 97, 110, 103, 101]
  names := [[111, 110, 101], [109, 101, 115, 115, 97, 103, 101, 115], [111, 108, 100], [110, 101, 119]]
  ps := 4
  M := [1]
  fr := true
  body := [
    (.ite (.cmp .inn (.var 2) (.var 1)) [(.mvk 1 (.var 3) (.var 2))] []),
    (.ret (.var 1))]
def f_moved : Fn where
  name := [109, 111, 118, 101, 100]
  names := [[104, 111, 117, 115, 101], [111, 108, 100], [110, 101, 119], [99, 104, 97, 110, 103, 101]]
  ps := 3
  M := []
  fr := false
  body := [
    (.ite (.not (.call 131 [(.var 0), (.var 1)])) [(.rai 3 none)] []),
    (.ite (.call 131 [(.var 0), (.var 2)]) [(.rai 4 none)] []),
    (.retC 126 (.var 0) 1 [1, 2] 3)]
  mkr := some [99, 104, 97, 110, 103, 101]

def f_law_cell : Fn where
  name := [95, 108, 97, 119, 95, 99, 101, 108, 108]
  names := [[115, 99, 114, 105, 112, 116], [107]]
  ps := 2
  M := []
  fr := false
  body := [
    (.ite (.cmp .lt (.var 1) (.blt .len (.var 0))) [(.ret (.idx (.var 0) (.var 1)))] []),
    (.ret (.cst (.int 0)))]

def f_law_mix : Fn where
  name := [95, 108, 97, 119, 95, 109, 105, 120]
  names := [[99, 101, 108, 108], [112, 114, 105, 109, 101], [109, 97, 110, 121], [98, 108, 101, 110, 100]]
  ps := 3
  M := []
  fr := false
  body := [
    (.asg 3 (.bin .mod (.bin .mul (.var 0) (.cst (.int 48271))) (.var 1))),
    (.ret (.bin .mod (.bin .mod (.bin .mul (.var 3) (.bin .add (.var 3) (.cst (.int 7)))) (.var 1)) (.var 2)))]

def f_law_same : Fn where
  name := [95, 108, 97, 119, 95, 115, 97, 109, 101]
  names := [[102, 111, 117, 110, 100], [100, 117, 101], [111, 110, 101], [111, 116, 104, 101, 114]]
  ps := 2
  M := []
  fr := false
  body := [
    (.ite (.isi (.var 1) .tuple) [(.ite (.or [(.not (.isi (.var 0) .tuple)), (.cmp .ne (.blt .len (.var 0)) (.blt .len (.var 1)))]) [(.ret (.cst (.bl false)))] []), (.ret (.blt .all (.lc [2, 3] (.tup [2, 3]) (.zip (.var 0) (.var 1)) [] (.call 8 [(.var 2), (.var 3)]))))] []),
    (.ite (.cmp .is (.var 1) (.cst .non)) [(.ret (.cmp .is (.var 0) (.cst .non)))] []),
    (.ite (.or [(.isi (.var 1) .bool), (.isi (.var 0) .bool)]) [(.ret (.and [(.isi (.var 1) .bool), (.isi (.var 0) .bool), (.cmp .eq (.var 0) (.var 1))]))] []),
    (.ret (.and [(.isi (.var 0) .intstr), (.cmp .eq (.var 0) (.var 1))]))]

def f_law_tags : Fn where
  name := [95, 108, 97, 119, 95, 116, 97, 103, 115]
  names := []
  ps := 0
  M := []
  fr := false
  body := [
    (.ret (.tup [(.cst (.str [100, 101])), (.cst (.str [100, 101, 45, 65, 84])), (.cst (.str [100, 101, 45, 67, 72])), (.cst (.str [101, 110])), (.cst (.str [101, 110, 45, 71, 66])), (.cst (.str [102, 114])), (.cst (.str [102, 114, 45, 67, 65])), (.cst (.str [103, 115, 119])), (.cst (.str [112, 116, 45, 66, 82])), (.cst (.str [122, 104])), (.cst (.str [122, 104, 45, 84, 87]))]))]

def f_law_tag : Fn where
  name := [95, 108, 97, 119, 95, 116, 97, 103]
  names := [[99, 101, 108, 108]]
  ps := 1
  M := []
  fr := false
  body := [
    (.ret (.idx (.call 3 []) (.call 2 [(.var 0), (.cst (.int 9973)), (.cst (.int 11))])))]

def f_law_some_tags_b1 : List Sm := [
    (.put 2 (.call 9 [(.bin .add (.var 0) (.bin .mul (.cst (.int 7)) (.var 3)))]) (.cst (.bl true)))]
def f_law_some_tags : Fn where
  name := [95, 108, 97, 119, 95, 115, 111, 109, 101, 95, 116, 97, 103, 115]
  names := [[99, 101, 108, 108], [109, 97, 110, 121], [102, 111, 117, 110, 100], [107]]
  ps := 2
  M := [2]
  fr := false
  body := [
    (.asg 2 (.dk0)),
    (.for_ (.one 3) (.rng1 (.call 2 [(.var 0), (.cst (.int 9967)), (.bin .add (.var 1) (.cst (.int 1)))])) f_law_some_tags_b1),
    (.ret (.blt .tuple (.blt .sorted (.var 2))))]

def f_law_links_b1 : List Sm := [
    (.put 1 (.call 9 [(.bin .add (.var 0) (.bin .mul (.cst (.int 11)) (.var 2)))]) (.call 9 [(.bin .add (.bin .add (.var 0) (.bin .mul (.cst (.int 13)) (.var 2))) (.cst (.int 1)))]))]
def f_law_links : Fn where
  name := [95, 108, 97, 119, 95, 108, 105, 110, 107, 115]
  names := [[99, 101, 108, 108], [102, 111, 117, 110, 100], [107], [111, 110, 101]]
  ps := 1
  M := [1]
  fr := false
  body := [
    (.asg 1 (.dk0)),
    (.for_ (.one 2) (.rng1 (.call 2 [(.var 0), (.cst (.int 9949)), (.cst (.int 5))])) f_law_links_b1),
    (.ret (.blt .tuple (.lc [3] (.one 3) (.seq (.blt .sorted (.var 1))) [] (.tup [(.var 3), (.idx (.var 1) (.var 3))]))))]

def f_law_text : Fn where
  name := [95, 108, 97, 119, 95, 116, 101, 120, 116]
  names := [[99, 101, 108, 108], [115, 105, 103, 110, 115], [109, 97, 110, 121], [107]]
  ps := 1
  M := []
  fr := false
  body := [
    (.asg 1 (.cst (.str [32, 33, 34, 35, 36, 38, 39, 40, 41, 42, 43, 44, 45, 46, 47, 48, 49, 50, 51, 52, 53, 54, 55, 56, 57, 58, 59, 60, 61, 62, 63, 64, 65, 66, 67, 68, 69, 70, 71, 72, 73, 74, 75, 76, 77, 78, 79, 80, 81, 82, 83, 84, 85, 86, 87, 88, 89, 90, 91, 92, 93, 94, 95, 96, 97, 98, 99, 100, 101, 102, 103, 104, 105, 106, 107, 108, 109, 110, 111, 112, 113, 114, 115, 116, 117, 118, 119, 120, 121, 122, 123, 124, 125, 126]))),
    (.ite (.cmp .eq (.bin .mod (.var 0) (.cst (.int 3))) (.cst (.int 0))) [(.ret (.idx (.tup [(.cst (.str [97])), (.cst (.str [101, 105, 110])), (.cst (.str [123])), (.cst (.str [125])), (.cst (.str [35])), (.cst (.str [92])), (.cst (.str [97, 32, 35, 32, 98])), (.cst (.str [44, 32])), (.cst (.str [32, 123, 120, 125])), (.cst (.str [111]))]) (.call 2 [(.var 0), (.cst (.int 9941)), (.cst (.int 10))])))] []),
    (.asg 2 (.bin .add (.cst (.int 1)) (.call 2 [(.var 0), (.cst (.int 9931)), (.cst (.int 4))]))),
    (.ret (.mth .join (.cst (.str [])) (.lc [3] (.one 3) (.rng1 (.var 2)) [] (.idx (.var 1) (.call 2 [(.bin .add (.var 0) (.bin .mul (.cst (.int 7)) (.var 3))), (.cst (.int 9929)), (.blt .len (.var 1))])))))]

def f_law_name : Fn where
  name := [95, 108, 97, 119, 95, 110, 97, 109, 101]
  names := [[99, 101, 108, 108]]
  ps := 1
  M := []
  fr := false
  body := [
    (.ret (.idx (.tup [(.cst (.str [97])), (.cst (.str [110])), (.cst (.str [119, 104, 111])), (.cst (.str [102, 105, 108, 101])), (.cst (.str [122, 122, 122, 122, 122, 122]))]) (.call 2 [(.var 0), (.cst (.int 9923)), (.cst (.int 5))])))]

def f_law_cases : Fn where
  name := [95, 108, 97, 119, 95, 99, 97, 115, 101, 115]
  names := [[99, 101, 108, 108], [119, 111, 114, 100], [100, 101, 101, 112], [99, 111, 117, 110, 116, 101, 100], [107, 101, 121, 115], [105, 110, 110, 101, 114], [119, 111, 114, 100, 115], [107], [107, 101, 121], [111, 110, 101]]
  ps := 4
  M := []
  fr := false
  body := [
    (.asg 4 (.lst [])),
    (.ite (.cmp .eq (.var 1) (.cst (.str [99, 111, 117, 110, 116]))) [(.asg 4 (.u1 .sset (.lc [7] (.one 7) (.rng1 (.call 2 [(.var 0), (.cst (.int 9901)), (.cst (.int 3))])) [] (.call 2 [(.bin .add (.var 0) (.bin .mul (.cst (.int 3)) (.var 7))), (.cst (.int 9907)), (.cst (.int 6))])))), (.asg 6 (.tup [(.cst (.str [122, 101, 114, 111])), (.cst (.str [111, 110, 101])), (.cst (.str [116, 119, 111])), (.cst (.str [102, 101, 119])), (.cst (.str [109, 97, 110, 121]))])), (.asg 4 (.bin .add (.var 4) (.lc [7, 9] (.tup [7, 9]) (.enm (.var 6)) [(.cmp .eq (.call 2 [(.bin .add (.var 0) (.var 7)), (.cst (.int 9887)), (.cst (.int 3))]) (.cst (.int 0)))] (.var 9))))] [(.asg 4 (.sli (.u1 .sset (.lc [7] (.one 7) (.rng1 (.cst (.int 3))) [] (.idx (.tup [(.cst (.str [102])), (.cst (.str [109])), (.cst (.str [115, 104, 101])), (.cst (.str [116, 104, 101, 121]))]) (.call 2 [(.bin .add (.var 0) (.bin .mul (.cst (.int 3)) (.var 7))), (.cst (.int 9883)), (.cst (.int 4))])))) (.cst .non) (.cst (.int 2))))]),
    (.asg 5 (.or [(.var 3), (.cmp .eq (.var 1) (.cst (.str [99, 111, 117, 110, 116])))])),
    (.ret (.blt .tuple (.lc [7, 8] (.tup [7, 8]) (.enm (.bin .add (.var 4) (.lst [(.cst (.str [111, 116, 104, 101, 114]))]))) [] (.tup [(.var 8), (.call 30 [(.bin .add (.bin .add (.var 0) (.bin .mul (.cst (.int 17)) (.var 7))) (.cst (.int 5))), (.bin .sub (.var 2) (.cst (.int 1))), (.var 5)])]))))]

def f_law_message_b1 : List Sm := [
    (.asg 5 (.bin .add (.var 0) (.bin .mul (.cst (.int 19)) (.var 4)))),
    (.asg 6 (.call 2 [(.var 5), (.cst (.int 9859)), (.cst (.int 7))])),
    (.ite (.and [(.cmp .lt (.var 6) (.cst (.int 2))), (.or [(.not (.var 3)), (.cmp .ne (.idx (.idx (.var 3) (.neg (.cst (.int 1)))) (.cst (.int 0))) (.cst (.str [116, 101, 120, 116])))])]) [(.app 3 (.tup [(.cst (.str [116, 101, 120, 116])), (.call 27 [(.var 5)])]))] [(.ite (.and [(.cmp .eq (.var 6) (.cst (.int 2))), (.var 2)]) [(.app 3 (.tup [(.cst (.str [109, 97, 114, 107]))]))] [(.ite (.or [(.cmp .lt (.var 6) (.cst (.int 5))), (.cmp .eq (.var 1) (.cst (.int 0)))]) [(.app 3 (.tup [(.cst (.str [115, 108, 111, 116])), (.call 28 [(.var 5)])]))] [(.asg 7 (.idx (.tup [(.cst (.str [99, 111, 117, 110, 116])), (.cst (.str [107, 105, 110, 100]))]) (.bin .sub (.var 6) (.cst (.int 5))))), (.app 3 (.tup [(.var 7), (.call 28 [(.var 5)]), (.call 29 [(.bin .add (.var 5) (.cst (.int 1))), (.var 7), (.var 1), (.var 2)])]))])])])]
def f_law_message : Fn where
  name := [95, 108, 97, 119, 95, 109, 101, 115, 115, 97, 103, 101]
  names := [[99, 101, 108, 108], [100, 101, 101, 112], [99, 111, 117, 110, 116, 101, 100], [102, 111, 117, 110, 100], [107], [115, 101, 101, 100], [119, 97, 121], [119, 111, 114, 100]]
  ps := 3
  M := [3]
  fr := false
  body := [
    (.asg 3 (.lst [])),
    (.for_ (.one 4) (.rng1 (.call 2 [(.var 0), (.cst (.int 9871)), (.cst (.int 4))])) f_law_message_b1),
    (.ret (.blt .tuple (.var 3)))]

def f_law_test : Fn where
  name := [95, 108, 97, 119, 95, 116, 101, 115, 116]
  names := [[99, 101, 108, 108], [114, 101, 115, 116], [109, 111, 115, 116], [108, 111, 119], [104, 105, 103, 104]]
  ps := 1
  M := []
  fr := false
  body := [
    (.asg 1 (.idx (.tup [(.cst (.int 0)), (.cst (.int 0)), (.cst (.int 2)), (.cst (.int 5)), (.cst (.int 10)), (.cst (.int 100))]) (.call 2 [(.var 0), (.cst (.int 9857)), (.cst (.int 6))]))),
    (.asg 2 (.idx (.tup [(.cst (.int 12)), (.cst (.int 1)), (.cst (.int 4)), (.cst (.int 9)), (.cst (.int 99))]) (.u2 .tix (.tup [(.cst (.int 0)), (.cst (.int 2)), (.cst (.int 5)), (.cst (.int 10)), (.cst (.int 100))]) (.var 1)))),
    (.asg 3 (.call 2 [(.var 0), (.cst (.int 9851)), (.bin .add (.var 2) (.cst (.int 1)))])),
    (.asg 4 (.u2 .min (.bin .add (.var 3) (.call 2 [(.var 0), (.cst (.int 9839)), (.cst (.int 4))])) (.cst (.int 999)))),
    (.ite (.cmp .eq (.call 2 [(.var 0), (.cst (.int 9833)), (.cst (.int 12))]) (.cst (.int 0))) [(.asg 4 (.cst (.int 999)))] []),
    (.ret (.tup [(.var 1), (.var 3), (.var 4), (.cmp .gt (.call 2 [(.var 0), (.cst (.int 9829)), (.cst (.int 4))]) (.cst (.int 0)))]))]

def f_law_rules_b1 : List Sm := [
    (.asg 6 (.bin .add (.cst (.int 1)) (.call 2 [(.bin .add (.bin .add (.var 0) (.bin .mul (.cst (.int 5)) (.var 5))) (.var 2)), (.cst (.int 9803)), (.cst (.int 2))]))),
    (.app 4 (.blt .tuple (.lc [7] (.one 7) (.rng1 (.var 6)) [] (.call 55 [(.bin .add (.bin .add (.bin .add (.var 0) (.bin .mul (.cst (.int 23)) (.var 5))) (.bin .mul (.cst (.int 29)) (.var 7))) (.bin .mul (.cst (.int 31)) (.var 2)))]))))]
def f_law_rules_b2 : List Sm := [
    (.ite (.cmp .gt (.call 2 [(.bin .add (.var 0) (.var 2)), (.cst (.int 9817)), (.cst (.int 5))]) (.bin .sub (.cst (.int 2)) (.blt .int (.cmp .eq (.var 2) (.cst (.int 0)))))) [(.asg 4 (.lst [])), (.for_ (.one 5) (.rng1 (.bin .add (.call 2 [(.bin .add (.var 0) (.bin .mul (.cst (.int 3)) (.var 2))), (.cst (.int 9811)), (.cst (.int 3))]) (.blt .int (.cmp .eq (.var 2) (.cst (.int 0)))))) f_law_rules_b1), (.app 1 (.tup [(.var 3), (.blt .tuple (.var 4))]))] [])]
def f_law_rules : Fn where
  name := [95, 108, 97, 119, 95, 114, 117, 108, 101, 115]
  names := [[99, 101, 108, 108], [102, 111, 117, 110, 100], [107], [119, 111, 114, 100], [99, 104, 111, 105, 99, 101, 115], [106], [109, 97, 110, 121], [105]]
  ps := 1
  M := [1, 4]
  fr := false
  body := [
    (.asg 1 (.lst [])),
    (.for_ (.tup [2, 3]) (.enm (.tup [(.cst (.str [111, 110, 101])), (.cst (.str [102, 101, 119])), (.cst (.str [122, 101, 114, 111])), (.cst (.str [109, 97, 110, 121])), (.cst (.str [116, 119, 111]))])) f_law_rules_b2),
    (.ret (.blt .tuple (.var 1)))]

def f_law_book_b1 : List Sm := [
    (.ite (.cmp .gt (.call 2 [(.bin .add (.var 0) (.bin .mul (.cst (.int 3)) (.var 4))), (.cst (.int 9767)), (.cst (.int 4))]) (.cst (.int 0))) [(.app 3 (.tup [(.var 5), (.call 30 [(.bin .add (.var 0) (.bin .mul (.cst (.int 37)) (.var 4))), (.var 2), (.cst (.bl false))])]))] [])]
def f_law_book : Fn where
  name := [95, 108, 97, 119, 95, 98, 111, 111, 107]
  names := [[99, 101, 108, 108], [107, 101, 121, 115], [100, 101, 101, 112], [102, 111, 117, 110, 100], [107], [107, 101, 121]]
  ps := 3
  M := [3]
  fr := false
  body := [
    (.asg 3 (.lst [])),
    (.for_ (.tup [4, 5]) (.enm (.var 1)) f_law_book_b1),
    (.ret (.blt .tuple (.var 3)))]

def f_law_house_b1 : List Sm := [
    (.app 5 (.tup [(.var 7), (.call 56 [(.bin .add (.var 0) (.bin .mul (.cst (.int 41)) (.var 6)))]), (.call 102 [(.bin .add (.var 0) (.bin .mul (.cst (.int 43)) (.var 6))), (.var 4), (.var 1)])]))]
def f_law_house : Fn where
  name := [95, 108, 97, 119, 95, 104, 111, 117, 115, 101]
  names := [[99, 101, 108, 108], [100, 101, 101, 112], [116, 97, 103, 115], [108, 97, 115, 116], [107, 101, 121, 115], [115, 104, 101, 108, 118, 101, 115], [107], [116, 97, 103]]
  ps := 2
  M := [5]
  fr := false
  body := [
    (.asg 2 (.blt .list (.call 14 [(.var 0), (.cst (.int 4))]))),
    (.asg 3 (.call 9 [(.bin .add (.var 0) (.cst (.int 2)))])),
    (.ite (.cmp .nin (.var 3) (.var 2)) [(.asg 2 (.blt .sorted (.bin .add (.var 2) (.lst [(.var 3)]))))] []),
    (.asg 4 (.tup [(.cst (.str [97])), (.cst (.str [98, 46, 99])), (.cst (.str [107, 101, 121])), (.cst (.str [108, 111, 110, 103, 46, 107, 101, 121])), (.cst (.str [122]))])),
    (.asg 5 (.lst [])),
    (.for_ (.tup [6, 7]) (.enm (.var 2)) f_law_house_b1),
    (.ret (.tup [(.var 3), (.call 10 [(.bin .add (.var 0) (.cst (.int 1)))]), (.blt .tuple (.var 5))]))]

def f_law_told_v6 : Fn where
  name := [95, 108, 97, 119, 95, 116, 111, 108, 100]
  names := [[104, 111, 117, 115, 101], [111, 108, 100], [110, 101, 119], [116, 111, 108, 100], [101], [111, 116, 104, 101, 114, 115]]
  ps := 3
  M := []
  fr := false
  body := [
    (.asg 3 (.cst .non)),
    (.tryA 3 132 [(.var 0), (.var 1), (.var 2)] 4 [(.asg 5 (.ors [5, 2, 1])), (.asg 3 (.tup [(.cst (.str [110, 111])), (.isx 3), (.isx 4), (.var 5)]))]),
    (.ret (.var 3))]

def f_law_k26_b1 : List Sm := [
    (.app 8 (.tup [(.var 11), (.var 12), (.blt .tuple (.lc [15] (.one 15) (.seq (.var 13)) [(.cmp .ne (.idx (.var 15) (.cst (.int 0))) (.var 5))] (.var 15)))])),
    (.asg 14 (.blt .dict (.var 13))),
    (.ite (.cmp .inn (.var 5) (.var 14)) [(.mvk 14 (.var 6) (.var 5))] []),
    (.app 7 (.tup [(.var 11), (.var 12), (.blt .tuple (.lc [16] (.one 16) (.seq (.blt .sorted (.var 14))) [] (.tup [(.var 16), (.idx (.var 14) (.var 16))])))]))]
def f_law_k26_b2 : List Sm := [
    (.ext 9 (.lc [15] (.one 15) (.seq (.var 13)) [] (.idx (.var 15) (.cst (.int 0)))))]
def f_law_k26_b3 : List Sm := [
    (.asg 3 (.bin .add (.call 1 [(.var 0), (.var 2)]) (.bin .mul (.cst (.int 3)) (.var 2)))),
    (.asg 4 (.call 103 [(.var 3), (.cst (.int 1))])),
    (.asg 5 (.idx (.var 1) (.call 2 [(.var 3), (.cst (.int 9623)), (.cst (.int 7))]))),
    (.asg 6 (.idx (.var 1) (.call 2 [(.var 3), (.cst (.int 9619)), (.cst (.int 7))]))),
    (.asg 7 (.lst [])),
    (.asg 8 (.lst [])),
    (.for_ (.tup [11, 12, 13]) (.seq (.idx (.var 4) (.cst (.int 2)))) f_law_k26_b1),
    (.ite (.not (.call 8 [(.call 130 [(.var 4), (.var 5)]), (.bin .add (.sli (.var 4) (.cst .non) (.cst (.int 2))) (.tup [(.blt .tuple (.var 8))]))])) [(.ret (.cst (.bl false)))] []),
    (.asg 9 (.lst [])),
    (.for_ (.tup [11, 12, 13]) (.seq (.idx (.var 4) (.cst (.int 2)))) f_law_k26_b2),
    (.asg 10 (.call 133 [(.var 4), (.var 5), (.var 6)])),
    (.ite (.cmp .nin (.var 5) (.var 9)) [(.ite (.cmp .ne (.var 10) (.tup [(.cst (.str [110, 111])), (.cst (.bl true)), (.cst (.bl false)), (.cst (.bl false))])) [(.ret (.cst (.bl false)))] [])] [(.ite (.cmp .inn (.var 6) (.var 9)) [(.ite (.cmp .ne (.var 10) (.tup [(.cst (.str [110, 111])), (.cst (.bl false)), (.cst (.bl true)), (.cst (.bl false))])) [(.ret (.cst (.bl false)))] [])] [(.ite (.or [(.not (.call 8 [(.var 10), (.bin .add (.sli (.var 4) (.cst .non) (.cst (.int 2))) (.tup [(.blt .tuple (.var 7))]))])), (.cmp .ne (.call 132 [(.var 10), (.var 6), (.var 5)]) (.var 4))]) [(.ret (.cst (.bl false)))] [])])])]
def f_law_k26 : Fn where
  name := [108, 97, 119]
  names := [[115, 99, 114, 105, 112, 116], [107, 101, 121, 115], [107], [99, 101, 108, 108], [104, 111, 117, 115, 101], [111, 108, 100], [110, 101, 119], [100, 117, 101], [108, 101, 115, 115], [116, 104, 101, 114, 101], [116, 111, 108, 100], [116, 97, 103], [114, 117, 108, 101, 115], [98, 111, 111, 107], [109, 101, 115, 115, 97, 103, 101, 115], [101, 110, 116, 114, 121], [110, 97, 109, 101]]
  ps := 1
  M := [7, 8, 9, 14]
  fr := false
  body := [
    (.asg 1 (.tup [(.cst (.str [97])), (.cst (.str [98, 46, 99])), (.cst (.str [107, 101, 121])), (.cst (.str [108, 111, 110, 103, 46, 107, 101, 121])), (.cst (.str [122])), (.cst (.str [110, 101, 119])), (.cst (.str [109]))])),
    (.for_ (.one 2) (.rng1 (.cst (.int 8))) f_law_k26_b3),
    (.ret (.cst (.bl true)))]


def TF : Nat → Option Fn := fun i => if i = 4000000 then some f_without_key_l0 else if i = 4000001 then some f_moved_l0 else (match i with
    | 125 => some f_as_book
    | 126 => some f_with_books
    | 130 => some f_without_key
    | 131 => some f_has_key
    | 132 => some f_moved
    | 1 => some f_law_cell
    | 2 => some f_law_mix
    | 8 => some f_law_same
    | 3 => some f_law_tags
    | 9 => some f_law_tag
    | 14 => some f_law_some_tags
    | 10 => some f_law_links
    | 27 => some f_law_text
    | 28 => some f_law_name
    | 29 => some f_law_cases
    | 30 => some f_law_message
    | 55 => some f_law_test
    | 56 => some f_law_rules
    | 102 => some f_law_book
    | 103 => some f_law_house
    | 133 => some f_law_told_v6
    | 134 => some f_law_k26
    | _ => none)

theorem small_of {i : Int} (h0 : 0 ≤ i) (h1 : i < 1000000) : small i = true := by
  unfold small
  exact decide_eq_true (by omega)
def mixZ (c p m : Int) : Int := (c * 48271 % p) * (c * 48271 % p + 7) % p % m
theorem mixZ_nn (c p m : Int) (hm : 0 < m) : 0 ≤ mixZ c p m := Int.emod_nonneg _ (by omega)
theorem mixZ_lt (c p m : Int) (hm : 0 < m) : mixZ c p m < m := Int.emod_lt_of_pos _ hm
theorem rng_mem (n : Nat) (i : Int) {d : D} (h : d ∈ rngF i n) : ∃ j, d = .int j ∧ i ≤ j ∧ j < i + n := by
  obtain ⟨k, hk, e⟩ := List.mem_map.mp h
  have := List.mem_range.mp hk
  exact ⟨i + k, e.symm, by omega, by omega⟩
theorem exs_app {F : Nat → List D → R D} {W : Nat} {M : List Nat} : ∀ (a b : List Sm) (ρ : Rho), exs F W M (a ++ b) ρ = (do let f ← exs F W M a ρ; thenF (exs F W M b) f)
  | [], b, ρ => rfl
  | s :: a, b, ρ => by
    rw [List.cons_append, exs_cons, exs_cons, bind_assoc']
    congr 1
    funext f
    cases f with
    | nx ρ' => exact exs_app a b ρ'
    | _ => rfl
theorem at_in {α : Type} {l : List α} {i : Int} (d : α) (h0 : 0 ≤ i) (h1 : i < l.length) : atO l i = some (l.getD i.toNat d) := by
  unfold atO ixO
  rw [if_pos h0, if_pos h1]
  have hlt : i.toNat < l.length := by omega
  simp [hlt]
theorem par_no : ∀ (s acc : List Nat), 45 ∉ s → parS [45] acc s = none
  | [], _, _ => rfl
  | c :: r, acc, h => by
    have hc : ¬ c = 45 := fun e => h (by simp [e])
    unfold parS
    rw [if_neg (by simp [preS, hc])]
    exact par_no r _ fun z => h (List.mem_cons_of_mem _ z)
theorem par_yes : ∀ (t acc p : List Nat), 45 ∉ t → parS [45] acc (t ++ 45 :: p) = some (acc ++ t, p)
  | [], acc, p, _ => by
    show parS [45] acc (45 :: p) = _
    unfold parS
    rw [if_pos (by simp [preS])]
    simp
  | c :: r, acc, p, h => by
    have hc : ¬ c = 45 := fun e => h (by simp [e])
    show parS [45] acc (c :: (r ++ 45 :: p)) = _
    unfold parS
    rw [if_neg (by simp [preS, hc]), par_yes r _ p fun z => h (List.mem_cons_of_mem _ z)]
    simp
theorem par_spl : ∀ s : List Nat, 45 ∈ s → ∃ t p, s = t ++ 45 :: p ∧ 45 ∉ t
  | c :: r, h => by
    by_cases hc : c = 45
    · exact ⟨[], r, by simp [hc], by simp⟩
    · obtain ⟨t, p, e, ht⟩ := par_spl r (by simpa [Ne.symm hc] using h)
      exact ⟨c :: t, p, by simp [e], by simp [ht, Ne.symm hc]⟩
theorem flat_strs {α : Type} (f : α → List Nat) : ∀ l : List α, D.flatDs (l.map fun a => .str (f a)) = true
  | [] => rfl
  | a :: r => by simp [D.flatDs, D.flatD, flat_strs f r]
theorem depth_strs {α : Type} (f : α → List Nat) : ∀ l : List α, D.depths (l.map fun a => .str (f a)) = 0
  | [] => rfl
  | a :: r => by simp [D.depths, D.depth, depth_strs f r]
theorem lt1 (a b : Nat) : ltS [a] [b] = decide (a < b) := by
  simp only [ltS]
  by_cases h : a < b
  · simp [h]
  · simp [h]

theorem at_map {α β : Type} (f : α → β) (l : List α) (i : Int) : atO (l.map f) i = (atO l i).map f := by
  unfold atO
  rw [List.length_map]
  cases ixO l.length i with
  | none => rfl
  | some j => simp
@[simp] theorem eq_bl {a b : Bool} : cmD .eq (.bl a) (.bl b) = .ok (a == b) := rfl
theorem zipF_self : ∀ xs : List D, zipF xs xs = xs.map fun x => .tup [x, x]
  | [] => rfl
  | x :: r => by simp [zipF, zipF_self r]
theorem all_map_true {α : Type} (l : List α) : bools (l.map fun _ => .bl true) = some (l.map fun _ => true) := bools_map (fun _ => true) l
theorem pures_mem : ∀ {xs : List D} {x : D}, D.pures xs = true → x ∈ xs → x.pure = true
  | _ :: _, _, h, hx => by
    simp only [D.pures, Bool.and_eq_true] at h
    rcases List.mem_cons.mp hx with rfl | hx
    · exact h.1
    · exact pures_mem h.2 hx
theorem depths_mem : ∀ {xs : List D} {x : D}, x ∈ xs → x.depth ≤ D.depths xs
  | y :: r, x, hx => by
    simp only [D.depths]
    rcases List.mem_cons.mp hx with rfl | hx
    · omega
    · have := depths_mem (xs := r) hx; omega
theorem any_str (t : List Nat) : ∀ f : List (List Nat), ((f.map D.str).any fun z => eqD z (.str t)) = decide (t ∈ f)
  | [] => rfl
  | a :: r => by
    rw [List.map_cons, List.any_cons, any_str t r]
    show (decide (a = t) || decide (t ∈ r)) = _
    rw [Bool.eq_iff_iff]
    simp only [Bool.or_eq_true, decide_eq_true_eq, List.mem_cons]
    exact ⟨fun h => h.imp Eq.symm id, fun h => h.imp Eq.symm id⟩
theorem all_sc : ∀ f : List (List Nat), (f.map D.str).all D.sc = true
  | [] => rfl
  | a :: r => by rw [List.map_cons, List.all_cons, all_sc r]; rfl
theorem in_strs (t : List Nat) (f : List (List Nat)) : cmD .inn (.str t) (.lst (f.map .str)) = .ok (decide (t ∈ f)) := by
  rw [in_lst rfl (all_sc f), any_str]
theorem nin_strs (t : List Nat) (f : List (List Nat)) : cmD .nin (.str t) (.lst (f.map .str)) = .ok (!decide (t ∈ f)) := nin_eq (in_strs t f)
theorem in_strsT (t : List Nat) (f : List (List Nat)) : cmD .inn (.str t) (.tup (f.map .str)) = .ok (decide (t ∈ f)) := by
  rw [in_tup rfl (all_sc f), any_str]
theorem filter_lt {α : Type} {p q : α → Bool} {t : α} (hpq : ∀ x, q x = true → p x = true) (hp : p t = true) (hq : q t = false) : ∀ {l : List α}, t ∈ l → (l.filter q).length < (l.filter p).length := by
  have le : ∀ l : List α, (l.filter q).length ≤ (l.filter p).length := by
    intro l
    induction l with
    | nil => exact Nat.le_refl _
    | cons a r ih =>
      cases ha : q a with
      | true => simp [ha, hpq a ha, ih]
      | false =>
        cases hb : p a with
        | true => simp [ha, hb]; omega
        | false => simp [ha, hb, ih]
  intro l
  induction l with
  | nil => intro h; cases h
  | cons a r ih =>
    intro h
    rcases List.mem_cons.mp h with rfl | h
    · simp [hp, hq]; exact Nat.lt_succ_of_le (le r)
    · have := ih h
      cases ha : q a with
      | true => simp [ha, hpq a ha]; exact this
      | false =>
        cases hb : p a with
        | true => simp [ha, hb]; omega
        | false => simp [ha, hb]; exact this
theorem mix_spec (k W : Nat) (c p m : Int) (hp : 0 < p) (hp2 : p < 1000000) (hm : 0 < m) : run TF W (k + 1) 2 [.int c, .int p, .int m] = .ok (.int (mixZ c p m)) := by
  rw [run_eq (fn := f_law_mix) rfl rfl]
  have h1 : small (48271 : Int) = true := by decide
  have h2 : small (c * 48271 % p) = true := small_of (Int.emod_nonneg _ (by omega)) (by have := Int.emod_lt_of_pos (c * 48271) hp; omega)
  simp [f_law_mix, h1, h2, hp, hm]
  rfl
theorem cell_spec (k W : Nat) (ns : List Int) (i : Int) (hi : 0 ≤ i) : run TF W (k + 1) 1 [.scr ns, .int i] = .ok (.int (ns.getD i.toNat 0)) := by
  rw [run_eq (fn := f_law_cell) rfl rfl]
  simp [f_law_cell]
  split
  · rename_i h
    have h3 : atO ns i = some (ns.getD i.toNat 0) := by
      unfold atO ixO
      rw [if_pos hi, if_pos h]
      have hlt : i.toNat < ns.length := by omega
      simp [hlt]
    simp [h3]
  · rename_i h
    have hge : ns.length ≤ i.toNat := by omega
    simp [hge]
def tagl : List (List Nat) := [[100, 101], [100, 101, 45, 65, 84], [100, 101, 45, 67, 72], [101, 110], [101, 110, 45, 71, 66], [102, 114], [102, 114, 45, 67, 65], [103, 115, 119], [112, 116, 45, 66, 82], [122, 104], [122, 104, 45, 84, 87]]
theorem tags_run (k W : Nat) : run TF W (k + 1) 3 [] = .ok (.tup (tagl.map .str)) := by
  rw [run_eq (fn := f_law_tags) rfl rfl]
  simp [f_law_tags, tagl]

def tagAt (c : Int) : List Nat := tagl.getD (mixZ c 9973 11).toNat []
theorem tagAt_mem (c : Int) : tagAt c ∈ tagl := by
  have h0 := mixZ_nn c 9973 11 (by omega)
  have h1 := mixZ_lt c 9973 11 (by omega)
  have hl : (mixZ c 9973 11).toNat < tagl.length := by show _ < 11; omega
  unfold tagAt
  rw [List.getD_eq_getElem?_getD, List.getElem?_eq_getElem hl]
  exact List.getElem_mem hl
theorem tag_spec (k W : Nat) (c : Int) : run TF W (k + 2) 9 [.int c] = .ok (.str (tagAt c)) := by
  rw [run_eq (fn := f_law_tag) rfl rfl]
  have h0 := mixZ_nn c 9973 11 (by omega)
  have h1 := mixZ_lt c 9973 11 (by omega)
  have e : atO (tagl.map D.str) (mixZ c 9973 11) = some (.str (tagAt c)) := by
    rw [at_map, at_in [] h0 (by show _ < (11 : Int); omega)]
    rfl
  simp [f_law_tag, tags_run, mix_spec k W c 9973 11 (by omega) (by omega) (by omega), e, -List.map_cons, -List.map_nil]
theorem same_lc (k W : Nat) (xs : List D) (h : ∀ x ∈ xs, run TF W k 8 [x, x] = .ok (.bl true)) :
    ev (run TF W k) (.lc [2, 3] (.tup [2, 3]) (.zip (.var 0) (.var 1)) [] (.call 8 [(.var 2), (.var 3)])) [some (.tup xs), some (.tup xs), none, none] = .ok (.lst (xs.map fun _ => .bl true)) := by
  rw [ev_lcS]
  simp only [its_zip, ev_var, List.getD_cons_zero, List.getD_cons_succ, ofO_some, ok_bind, zip_tup, zipF_self]
  rw [mapF_map (g := fun _ => .bl true)]
  · simp
  · intro d hd
    obtain ⟨x, hx, rfl⟩ := List.mem_map.mp hd
    simp [elF, h x hx]
theorem same_refl (W : Nat) : ∀ (n : Nat) (d : D), d.pure = true → d.depth ≤ n → ∀ k, run TF W (k + n + 1) 8 [d, d] = .ok (.bl true) := by
  intro n
  induction n with
  | zero =>
    intro d hp hd k
    rw [run_eq (fn := f_law_same) rfl rfl]
    cases d with
    | tup xs => simp [D.depth] at hd
    | lst xs => simp [D.pure] at hp
    | dk a b => simp [D.pure] at hp
    | dt a b => simp [D.pure] at hp
    | scr a => simp [D.pure] at hp
    | adr a b => simp [D.pure] at hp
    | _ => simp [f_law_same]
  | succ n ih =>
    intro d hp hd k
    rw [run_eq (fn := f_law_same) rfl rfl]
    cases d with
    | tup xs =>
      have h := same_lc (k + n + 1) W xs (fun x hx => ih x (pures_mem (by simpa [D.pure] using hp) hx) (by have := depths_mem hx; simp [D.depth] at hd; omega) k)
      simp [f_law_same, bind_assoc', -ev_lcS, show k + (n + 1) = k + n + 1 by omega, h, all_map_true]
    | lst xs => simp [D.pure] at hp
    | dk a b => simp [D.pure] at hp
    | dt a b => simp [D.pure] at hp
    | scr a => simp [D.pure] at hp
    | adr a b => simp [D.pure] at hp
    | _ => simp [f_law_same]
/-! general: loops and comprehensions over typed lists -/
theorem mapF_of {α : Type} {f : D → R (Option D)} {φ ψ : α → D} : ∀ {l : List α}, (∀ a ∈ l, f (φ a) = .ok (some (ψ a))) → mapF f (l.map φ) = .ok (l.map ψ)
  | [], _ => rfl
  | a :: r, h => by
    simp only [List.map_cons, mapF, h a List.mem_cons_self, nox_ok, ok_bind]
    rw [mapF_of fun x hx => h x (List.mem_cons_of_mem _ hx)]
    rfl
theorem mapF_fil {α : Type} {f : D → R (Option D)} {φ ψ : α → D} {p : α → Bool} : ∀ {l : List α}, (∀ a ∈ l, f (φ a) = .ok (if p a then some (ψ a) else none)) → mapF f (l.map φ) = .ok ((l.filter p).map ψ)
  | [], _ => rfl
  | a :: r, h => by
    simp only [List.map_cons, mapF, h a List.mem_cons_self, nox_ok, ok_bind]
    rw [mapF_fil fun x hx => h x (List.mem_cons_of_mem _ hx)]
    cases hp : p a <;> simp [hp]
theorem forF_cons {bd : Rho → R Fl} {tg : Tg} {d : D} {r : List D} {ρ ρ' : Rho} (e : (bindT tg d ρ >>= bd) = .ok (.nx ρ')) : forF bd tg (d :: r) ρ = forF bd tg r ρ' := by
  conv => lhs; unfold forF
  cases hb : bindT tg d ρ with
  | ok ρ0 =>
    rw [hb] at e
    simp only [ok_bind] at e ⊢
    rw [e]
    rfl
  | exc x => rw [hb] at e; cases e
  | no => rw [hb] at e; cases e
theorem forF_stop {bd : Rho → R Fl} {tg : Tg} {d x : D} {r : List D} {ρ : Rho} (e : (bindT tg d ρ >>= bd) = .ok (.rt x)) : forF bd tg (d :: r) ρ = .ok (.rt x) := by
  conv => lhs; unfold forF
  cases hb : bindT tg d ρ with
  | ok ρ0 =>
    rw [hb] at e
    simp only [ok_bind] at e ⊢
    rw [e]
    rfl
  | exc x => rw [hb] at e; cases e
  | no => rw [hb] at e; cases e
/-- a loop that heaps up -/
theorem forF_acc {α : Type} {φ : α → D} {bd : Rho → R Fl} {tg : Tg} {I : List α → Rho → Prop} {l0 : List α} (st : ∀ done a rest ρ, l0 = done ++ a :: rest → I done ρ → ∃ ρ', (bindT tg (φ a) ρ >>= bd) = .ok (.nx ρ') ∧ I (done ++ [a]) ρ') :
    ∀ {l done : List α} {ρ : Rho}, l0 = done ++ l → I done ρ → ∃ ρ', forF bd tg (l.map φ) ρ = .ok (.nx ρ') ∧ I l0 ρ'
  | [], done, ρ, e, h => ⟨ρ, rfl, by rw [e, List.append_nil]; exact h⟩
  | a :: r, done, ρ, e, h => by
    obtain ⟨ρ1, e1, h1⟩ := st done a r ρ e h
    obtain ⟨ρ2, e2, h2⟩ := forF_acc st (l := r) (done := done ++ [a]) (by rw [e]; simp) h1
    exact ⟨ρ2, by rw [List.map_cons, forF_cons e1, e2], h2⟩
/-- a loop that ends at the first that answers -/
theorem forF_some {α : Type} {φ : α → D} {bd : Rho → R Fl} {tg : Tg} {I : Rho → Prop} {q : α → Option D} : ∀ {l : List α} {ρ : Rho}, I ρ →
    (∀ a ∈ l, ∀ ρ, I ρ → (∀ d, q a = some d → (bindT tg (φ a) ρ >>= bd) = .ok (.rt d)) ∧ (q a = none → ∃ ρ', (bindT tg (φ a) ρ >>= bd) = .ok (.nx ρ') ∧ I ρ')) →
    (∀ d, l.findSome? q = some d → forF bd tg (l.map φ) ρ = .ok (.rt d)) ∧ (l.findSome? q = none → ∃ ρ', forF bd tg (l.map φ) ρ = .ok (.nx ρ') ∧ I ρ')
  | [], ρ, h, _ => ⟨fun d e => (by cases e), fun _ => ⟨ρ, rfl, h⟩⟩
  | a :: r, ρ, h, st => by
    obtain ⟨h1, h2⟩ := st a List.mem_cons_self ρ h
    cases hq : q a with
    | some d => exact ⟨fun d' e => by simp [hq] at e; subst e; rw [List.map_cons, forF_stop (h1 d hq)], fun e => by simp [hq] at e⟩
    | none =>
      obtain ⟨ρ1, e1, i1⟩ := h2 hq
      obtain ⟨g1, g2⟩ := forF_some i1 fun b hb => st b (List.mem_cons_of_mem _ hb)
      refine ⟨fun d e => ?_, fun e => ?_⟩
      · rw [List.map_cons, forF_cons e1]; exact g1 d (by simpa [hq] using e)
      · obtain ⟨ρ2, e2, i2⟩ := g2 (by simpa [hq] using e)
        exact ⟨ρ2, by rw [List.map_cons, forF_cons e1, e2], i2⟩
theorem limS {n : Nat} (h : n ≤ 10000) : n < LIM := Nat.lt_of_le_of_lt h (by decide)
theorem limL {n : Nat} (h : n ≤ 10000) : n ≤ LIM := Nat.le_of_lt (limS h)
theorem rngA {i : Int} (h0 : 0 ≤ i) (h1 : i ≤ 10000) : rngD (.int 0) (.int i) = .ok ((List.range i.toNat).map fun k => D.int ((k : Nat) : Int)) := by
  rw [rng_int, if_pos ⟨by omega, by omega, Nat.le_trans (show _ ≤ 10000 by omega) (by decide)⟩]
  simp [rngF]
theorem anyB {l : List Bool} : (l.any id) = l.any (fun b => b) := rfl
theorem okb {α β : Type} (a : α) (f : α → R β) : (R.ok a >>= f) = f a := by rfl
theorem its_rngN {F : Nat → List D → R D} {e : E} {ρ : Rho} {n : Nat} (h : ev F e ρ = .ok (.int (n : Int))) (hn : n ≤ 10000) : its F (.rng1 e) ρ = .ok ((List.range n).map fun k => D.int ((k : Nat) : Int)) := by
  rw [its_rng1, h, okb, rngA (by omega) (by omega), Int.toNat_natCast]
theorem ex_appN {F : Nat → List D → R D} {W : Nat} {M : List Nat} {i : Nat} {e : E} {ρ : Rho} {xs : List D} {d : D} (h1 : ρ.getD i none = some (.lst xs)) (h2 : ev F e ρ = .ok d) (hl : xs.length < LIM) : ex F W M (.app i e) ρ = .ok (.nx (setR ρ i (.lst (xs ++ [d])))) := by
  rw [ex_app, h1, appF_lst, h2, ok_bind, if_pos hl]
def preT (s : List Nat) : List Nat := s.takeWhile fun c => !decide (c = 45)
theorem pre_no : ∀ {s : List Nat}, 45 ∉ s → preT s = s
  | [], _ => rfl
  | c :: r, h => by
    have hc : ¬ c = 45 := fun e => h (by simp [e])
    have ih := pre_no (s := r) (fun z => h (List.mem_cons_of_mem _ z))
    unfold preT at ih ⊢
    simp [hc]
    simpa using ih
theorem pre_yes : ∀ {t : List Nat} (p : List Nat), 45 ∉ t → preT (t ++ 45 :: p) = t
  | [], p, _ => by simp [preT]
  | c :: r, p, h => by
    have hc : ¬ c = 45 := fun e => h (by simp [e])
    have ih := pre_yes (t := r) p (fun z => h (List.mem_cons_of_mem _ z))
    unfold preT at ih ⊢
    simp [hc]
    simpa using ih
theorem pre_ne (s : List Nat) : preT s = s ↔ 45 ∉ s := by
  constructor
  · intro h hm
    obtain ⟨t, p, e, ht⟩ := par_spl s hm
    rw [e, pre_yes p ht] at h
    have := congrArg List.length h
    simp at this
  · exact pre_no
def pairD (p : List Nat × List Nat) : D := .tup [.str p.1, .str p.2]
def lk : List (List Nat × List Nat) → List Nat → Option (List Nat)
  | [], _ => none
  | p :: r, t => if p.1 = t then some p.2 else lk r t
def nxt (L : List (List Nat × List Nat)) (t : List Nat) : Option (List Nat) := match lk L t with
  | some g => some g
  | none => if 45 ∈ t then some (preT t) else none
theorem dictO_pairs : ∀ L : List (List Nat × List Nat), dictO (L.map pairD) = some (L.map fun p => (Ky.s p.1, D.str p.2))
  | [] => rfl
  | p :: r => by simp [dictO, pairD, D.ky, dictO_pairs r]
theorem putK_new (k : Ky) (d : D) : ∀ (ks : List Ky) (vs : List D), k ∉ ks → ks.length = vs.length → putK k d ks vs = (ks ++ [k], vs ++ [d])
  | [], [], _, _ => rfl
  | a :: r, v :: q, h, hl => by
    have ha : ¬ a = k := fun e => h (by simp [e])
    have ih := putK_new k d r q (fun z => h (List.mem_cons_of_mem _ z)) (by simpa using hl)
    simp [putK, ha, ih]
theorem mkD_new : ∀ (l : List (Ky × D)) (ks : List Ky) (vs : List D), (ks ++ l.map (·.1)).Nodup → ks.length = vs.length → mkD l ks vs = (ks ++ l.map (·.1), vs ++ l.map (·.2))
  | [], ks, vs, _, _ => by simp [mkD]
  | (k, d) :: r, ks, vs, h, hl => by
    have hk : k ∉ ks := by
      intro z
      rw [List.nodup_append] at h
      exact h.2.2 k z k (by simp) rfl
    have e : ks ++ ((k, d) :: r).map (·.1) = (ks ++ [k]) ++ r.map (·.1) := by simp
    rw [e] at h
    simp only [mkD, putK_new k d ks vs hk hl]
    rw [mkD_new r (ks ++ [k]) (vs ++ [d]) h (by simp [hl])]
    simp
theorem look_pairs (t : List Nat) : ∀ L : List (List Nat × List Nat), look (Ky.s t) (L.map fun p => Ky.s p.1) (L.map fun p => D.str p.2) = (lk L t).map .str
  | [] => rfl
  | p :: r => by
    simp only [List.map_cons, look, lk, look_pairs t r]
    by_cases h : p.1 = t
    · simp [h]
    · simp [h]
theorem dict_links {L : List (List Nat × List Nat)} (h : (L.map (·.1)).Nodup) : bltD .dict (.tup (L.map pairD)) = .ok (.dk (L.map fun p => Ky.s p.1) (L.map fun p => D.str p.2)) := by
  have hn : ((L.map fun p => (Ky.s p.1, D.str p.2)).map (·.1)).Nodup := by
    rw [List.map_map]
    have e : ((fun x : Ky × D => x.1) ∘ fun p : List Nat × List Nat => (Ky.s p.1, D.str p.2)) = Ky.s ∘ fun p => p.1 := rfl
    rw [e, ← List.map_map]
    refine List.Pairwise.map _ (fun a b hab z => hab ?_) h
    cases z; rfl
  rw [dict_tup, dictO_pairs]
  simp only [ofO_some, ok_bind]
  rw [mkD_new _ [] [] (by simpa using hn) rfl]
  simp [List.map_map, Function.comp_def]
def optD : Option (List Nat) → D
  | none => .non
  | some t => .str t
/-- the walk -/
def wk (L : List (List Nat × List Nat)) : Nat → List (List Nat) → Option (List Nat) → List (List Nat)
  | 0, f, _ => f
  | _ + 1, f, none => f
  | n + 1, f, some t => if t ∈ f then f else wk L n (f ++ [t]) (nxt L t)
/-- what may be met -/
structure Uni (U : List (List Nat)) (L : List (List Nat × List Nat)) : Prop where
  nd : (L.map (·.1)).Nodup
  go : ∀ t ∈ U, ∀ g, nxt L t = some g → g ∈ U
  len : ∀ t ∈ U, t.length ≤ 100
def inU (U : List (List Nat)) : Option (List Nat) → Prop
  | none => True
  | some t => t ∈ U
def left (U f : List (List Nat)) : Nat := (U.filter fun u => !decide (u ∈ f)).length
theorem left_lt {U f : List (List Nat)} {t : List Nat} (h : t ∈ U) (hf : t ∉ f) : left U (f ++ [t]) < left U f := by
  unfold left
  refine filter_lt (t := t) (fun x hx => ?_) (by simp [hf]) (by simp) h
  simp only [List.mem_append, Bool.not_eq_true', decide_eq_false_iff_not, not_or] at hx ⊢
  exact hx.1
theorem left_pos {U f : List (List Nat)} {t : List Nat} (h : t ∈ U) (hf : t ∉ f) : 0 < left U f := Nat.lt_of_le_of_lt (Nat.zero_le _) (left_lt h hf)
theorem lim50 {n : Nat} (h : n ≤ 50) : n < LIM := Nat.lt_of_le_of_lt h (by decide)
theorem isn_opt {F : Nat → List D → R D} (o : Option (List Nat)) : cmD .isn (optD o) .non = .ok o.isSome := by cases o <;> rfl
def finC (f : List (List Nat)) : Option (List Nat) → List (List Nat)
  | none => f
  | some l => if l ∈ f then f else f ++ [l]
theorem wk_len (L : List (List Nat × List Nat)) : ∀ (n : Nat) (f : List (List Nat)) (o : Option (List Nat)), (wk L n f o).length ≤ f.length + n
  | 0, f, o => by simp [wk]
  | n + 1, f, none => by simp [wk]
  | n + 1, f, some t => by
    unfold wk
    split
    · omega
    · have := wk_len L n (f ++ [t]) (nxt L t)
      simp at this
      omega
theorem left_nil (U : List (List Nat)) : left U [] ≤ U.length := List.length_filter_le _ _
theorem spl_head : ∀ (s acc : List Nat), ∃ r, splS [45] 0 acc s = (acc ++ preT s) :: r
  | [], acc => ⟨[], by simp [splS, preT]⟩
  | c :: r, acc => by
    by_cases hc : c = 45
    · subst hc
      refine ⟨splS [45] 0 [] r, ?_⟩
      conv => lhs; unfold splS
      rw [if_pos (by simp [preS])]
      simp [preT]
    · obtain ⟨q, e⟩ := spl_head r (acc ++ [c])
      refine ⟨q, ?_⟩
      unfold splS
      rw [if_neg (by simp [preS, hc]), e]
      simp [preT, hc]
theorem split_spec {s : List Nat} (hs : s.length ≤ 100) : ∃ r, mthD .split s (.str [45]) = .ok (.lst (.str (preT s) :: r)) := by
  obtain ⟨r, e⟩ := spl_head s []
  refine ⟨r.map .str, ?_⟩
  have hl : s.length + 2 ≤ LIM := Nat.le_trans (show s.length + 2 ≤ 102 by omega) (by decide)
  simp only [mthD]
  rw [if_pos ⟨hl, by decide⟩, e]
  simp
theorem lk_nil {L : List (List Nat × List Nat)} {t : List Nat} (h : (L.filter fun p => decide (p.1 = t)) = []) : lk L t = none := by
  induction L with
  | nil => rfl
  | cons p r ih =>
    by_cases hp : p.1 = t
    · simp [hp] at h
    · simp only [lk, if_neg hp]
      exact ih (by simpa [hp] using h)
theorem lk_cons {L : List (List Nat × List Nat)} {t : List Nat} {p : List Nat × List Nat} {q : List (List Nat × List Nat)} (h : (L.filter fun p => decide (p.1 = t)) = p :: q) : lk L t = some p.2 := by
  induction L with
  | nil => simp at h
  | cons a r ih =>
    by_cases hp : a.1 = t
    · simp [hp] at h
      obtain ⟨rfl, _⟩ := h
      simp [lk, hp]
    · simp only [lk, if_neg hp]
      exact ih (by simpa [hp] using h)
theorem fil_pair (t : List Nat) (q : D → Bool) (g : D → D) (hq : ∀ p, q (pairD p) = decide (p.1 = t)) (hg : ∀ p, g (pairD p) = .str p.2) : ∀ L : List (List Nat × List Nat), ((L.map pairD).filter q).map g = (L.filter fun p => decide (p.1 = t)).map fun p => D.str p.2
  | [] => rfl
  | p :: r => by
    have ih := fil_pair t q g hq hg r
    by_cases hp : p.1 = t
    · simp [hq, hg, hp, ih]
    · simp [hq, hg, hp, ih]
theorem lc_goals {F : Nat → List D → R D} {L : List (List Nat × List Nat)} {t : List Nat} {r0 r2 r3 r5 r6 r7 : Option D} :
    ev F (.lc [6, 7] (.tup [6, 7]) (.seq (.var 1)) [(.cmp .eq (.var 6) (.var 4))] (.var 7)) [r0, some (.tup (L.map pairD)), r2, r3, some (.str t), r5, r6, r7] = .ok (.lst ((L.filter fun p => decide (p.1 = t)).map fun p => .str p.2)) := by
  rw [ev_lcS]
  simp only [its_seq, ev_var, List.getD_cons_zero, List.getD_cons_succ, ofO_some, ok_bind, seq_tup]
  rw [mapF_filter (p := fun d => match d with | .tup [.str a, _] => decide (a = t) | _ => false) (g := fun d => match d with | .tup [_, x] => x | _ => .non) (fun d hd => by
    obtain ⟨p, _, rfl⟩ := List.mem_map.mp hd
    simp [elF, pairD])]
  rw [fil_pair t _ _ (fun p => rfl) (fun p => rfl)]
  rfl
theorem at0' {α : Type} (a : α) (r : List α) : atO (a :: r) 0 = some a := by simp [atO, ixO]
def ups : List (List Nat × List Nat) → List Nat → List Nat → List (List Nat × List Nat)
  | [], a, b => [(a, b)]
  | p :: r, a, b => if p.1 = a then (p.1, b) :: r else p :: ups r a b
theorem putK_ups (a b : List Nat) : ∀ P : List (List Nat × List Nat), putK (Ky.s a) (D.str b) (P.map fun p => Ky.s p.1) (P.map fun p => D.str p.2) = ((ups P a b).map (fun p => Ky.s p.1), (ups P a b).map fun p => D.str p.2)
  | [] => rfl
  | p :: r => by
    have ih := putK_ups a b r
    by_cases h : p.1 = a
    · simp [putK, ups, h]
    · simp [putK, ups, h, ih]
theorem ups_mem {a b : List Nat} : ∀ {P : List (List Nat × List Nat)} {q : List Nat × List Nat}, q ∈ ups P a b → q ∈ P ∨ q = (a, b)
  | [], q, h => by simp [ups] at h; exact .inr h
  | p :: r, q, h => by
    unfold ups at h
    split at h
    · rename_i hp
      rcases List.mem_cons.mp h with h | h
      · exact .inr (by rw [h, hp])
      · exact .inl (List.mem_cons_of_mem _ h)
    · rcases List.mem_cons.mp h with h | h
      · exact .inl (by rw [h]; exact List.mem_cons_self)
      · exact (ups_mem h).imp (List.mem_cons_of_mem _) id
theorem ups_keys (a b : List Nat) : ∀ P : List (List Nat × List Nat), (ups P a b).map (·.1) = if a ∈ P.map (·.1) then P.map (·.1) else P.map (·.1) ++ [a]
  | [] => by simp [ups]
  | p :: r => by
    have ih := ups_keys a b r
    by_cases h : p.1 = a
    · simp [ups, h]
    · have h' : ¬ a = p.1 := fun e => h e.symm
      simp only [ups, if_neg h, List.map_cons, ih, List.mem_cons, h', false_or]
      split <;> simp
theorem ups_nd {a b : List Nat} {P : List (List Nat × List Nat)} (h : (P.map (·.1)).Nodup) : ((ups P a b).map (·.1)).Nodup := by
  rw [ups_keys]
  split
  · exact h
  · rename_i hn
    rw [List.nodup_append]
    refine ⟨h, by simp, fun x hx y hy e => ?_⟩
    simp at hy
    subst hy e
    exact hn hx
theorem nodup_len : ∀ {l U : List (List Nat)}, l.Nodup → (∀ x ∈ l, x ∈ U) → l.length ≤ U.length
  | [], U, _, _ => Nat.zero_le _
  | a :: r, U, h, hs => by
    obtain ⟨h1, h2⟩ := List.nodup_cons.mp h
    have ha := hs a List.mem_cons_self
    have := nodup_len (l := r) (U := U.erase a) h2 (fun x hx => by
      have hne : x ≠ a := fun e => h1 (e ▸ hx)
      exact (List.mem_erase_of_ne hne).mpr (hs x (List.mem_cons_of_mem _ hx)))
    rw [List.length_erase_of_mem ha] at this
    have hpos : 0 < U.length := List.length_pos_of_mem ha
    simp; omega
/-- drawn links -/
structure Lks (P : List (List Nat × List Nat)) : Prop where
  nd : (P.map (·.1)).Nodup
  ks : ∀ p ∈ P, p.1 ∈ tagl
  vs : ∀ p ∈ P, p.2 ∈ tagl
theorem Lks.len {P : List (List Nat × List Nat)} (h : Lks P) : P.length ≤ 11 := by
  have := nodup_len h.nd (U := tagl) (fun x hx => by
    obtain ⟨p, hp, rfl⟩ := List.mem_map.mp hx
    exact h.ks p hp)
  rw [List.length_map] at this
  exact this
theorem Lks.up {P : List (List Nat × List Nat)} (h : Lks P) {a b : List Nat} (ha : a ∈ tagl) (hb : b ∈ tagl) : Lks (ups P a b) :=
  ⟨ups_nd h.nd, fun p hp => by rcases ups_mem hp with z | z; exact h.ks p z; rw [z]; exact ha, fun p hp => by rcases ups_mem hp with z | z; exact h.vs p z; rw [z]; exact hb⟩
def LkF (c : Int) (ρ : Rho) : Prop := ∃ P r2 r3, Lks P ∧ ρ = [some (.int c), some (.dk (P.map fun p => Ky.s p.1) (P.map fun p => D.str p.2)), r2, r3]
theorem lk_mem {t : List Nat} : ∀ {P : List (List Nat × List Nat)}, t ∈ P.map (·.1) → ∃ g, lk P t = some g ∧ (t, g) ∈ P
  | p :: r, h => by
    by_cases hp : p.1 = t
    · exact ⟨p.2, by simp [lk, hp], by rw [← hp]; exact List.mem_cons_self⟩
    · have h' : t ∈ r.map (·.1) := by
        rcases List.mem_cons.mp h with z | z
        · exact (hp z.symm).elim
        · exact z
      obtain ⟨g, e, hg⟩ := lk_mem h'
      exact ⟨g, by simp [lk, hp, e], List.mem_cons_of_mem _ hg⟩
theorem lk_some {t g : List Nat} : ∀ {P : List (List Nat × List Nat)}, lk P t = some g → (t, g) ∈ P
  | p :: r, h => by
    by_cases hp : p.1 = t
    · simp [lk, hp] at h
      rw [← h, ← hp]; exact List.mem_cons_self
    · simp [lk, hp] at h
      exact List.mem_cons_of_mem _ (lk_some h)
theorem rngOk {i : Int} (h0 : 0 ≤ i) (h1 : i ≤ 10000) : rngD (.int 0) (.int i) = .ok (rngF 0 i.toNat) := by
  rw [rng_int, if_pos ⟨by omega, by omega, Nat.le_trans (show _ ≤ 10000 by omega) (by decide)⟩]
  simp
def sLk (P : List (List Nat × List Nat)) : List (List Nat × List Nat) := (sortS (P.map (·.1))).map fun s => (s, (lk P s).getD [])
theorem sLk_keys (P : List (List Nat × List Nat)) : (sLk P).map (·.1) = sortS (P.map (·.1)) := by
  unfold sLk
  rw [List.map_map]
  exact List.map_id' _
theorem sLk_ok {P : List (List Nat × List Nat)} (h : Lks P) : Lks (sLk P) := by
  refine ⟨by rw [sLk_keys]; exact (sortS_perm _).nodup_iff.mpr h.nd, fun p hp => ?_, fun p hp => ?_⟩
  · obtain ⟨s, hs, rfl⟩ := List.mem_map.mp hp
    obtain ⟨q, hq, e⟩ := List.mem_map.mp ((sortS_perm _).mem_iff.mp hs)
    show s ∈ tagl
    rw [← e]; exact h.ks q hq
  · obtain ⟨s, hs, rfl⟩ := List.mem_map.mp hp
    obtain ⟨g, e, hg⟩ := lk_mem ((sortS_perm _).mem_iff.mp hs)
    show (lk P s).getD [] ∈ tagl
    rw [e]; exact h.vs _ hg
theorem keyD_map (P : List (List Nat × List Nat)) : strsO ((P.map fun p => Ky.s p.1).map kyD) = some (P.map (·.1)) := by
  rw [List.map_map]
  exact strsO_map (fun p : List Nat × List Nat => p.1) P
theorem lc_links {F : Nat → List D → R D} {P : List (List Nat × List Nat)} (h : Lks P) {r0 r2 r3 : Option D} :
    ev F (.lc [3] (.one 3) (.seq (.blt .sorted (.var 1))) [] (.tup [(.var 3), (.idx (.var 1) (.var 3))])) [r0, some (.dk (P.map fun p => Ky.s p.1) (P.map fun p => D.str p.2)), r2, r3] = .ok (.lst ((sLk P).map pairD)) := by
  have hl : (P.map (·.1)).length < 64 := by rw [List.length_map]; have := h.len; omega
  rw [ev_lcS]
  simp only [its_seq, ev_blt, ev_var, List.getD_cons_zero, List.getD_cons_succ, ofO_some, ok_bind, sorted_dk, keyD_map]
  rw [if_pos hl]
  simp only [ok_bind, seq_lst]
  rw [mapF_map (g := fun d => match d with | .str s => pairD (s, (lk P s).getD []) | _ => .non)]
  · simp [sLk, List.map_map, Function.comp_def]
  · intro d hd
    obtain ⟨s, hs, rfl⟩ := List.mem_map.mp hd
    obtain ⟨g, e, _⟩ := lk_mem ((sortS_perm _).mem_iff.mp hs)
    simp [elF, look_pairs, e, pairD]
theorem links_spec (k W : Nat) (c : Int) : ∃ L, run TF W (k + 3) 10 [.int c] = .ok (.tup (L.map pairD)) ∧ Lks L := by
  rw [run_eq (fn := f_law_links) rfl rfl]
  have h0 := mixZ_nn c 9949 5 (by omega)
  have h1 := mixZ_lt c 9949 5 (by omega)
  have s11 : small (11 : Int) = true := by decide
  have s13 : small (13 : Int) = true := by decide
  obtain ⟨ρ', e, P, r2, r3, hP, hρ⟩ := forF_inv (bd := exs (run TF W (k + 2)) W [1] f_law_links_b1) (tg := .one 2) (I := LkF c) (ds := rngF 0 (mixZ c 9949 5).toNat) (ρ := [some (.int c), some (.dk [] []), none, none]) ⟨[], none, none, ⟨(by simp), (fun p hp => nomatch hp), (fun p hp => nomatch hp)⟩, rfl⟩ (fun d hd ρ ⟨P, r2, r3, hP, hρ⟩ => by
    obtain ⟨j, rfl, _, _⟩ := rng_mem _ _ hd
    subst hρ
    refine ⟨_, ?_, ups P (tagAt (c + 11 * j)) (tagAt (c + 13 * j + 1)), some (.int j), r3, hP.up (tagAt_mem _) (tagAt_mem _), rfl⟩
    simp [f_law_links_b1, s11, s13, tag_spec, putK_ups, lim50 (show P.length ≤ 50 by have := hP.len; omega)])
  subst hρ
  refine ⟨sLk P, ?_, sLk_ok hP⟩
  simp [f_law_links, bind_assoc', -ev_lcS, -rng_int, mix_spec (k + 1) W c 9949 5 (by omega) (by omega) (by omega), rngOk h0 (by omega), e, lc_links hP]
def uni : List (List Nat) := tagl ++ [[112, 116]]
theorem uni_of {L : List (List Nat × List Nat)} (h : (L.map (·.1)).Nodup) (hv : ∀ p ∈ L, p.2 ∈ uni) : Uni uni L := by
  have hp : ∀ t ∈ uni, preT t ∈ uni := by decide
  refine ⟨h, fun t ht g hg => ?_, by decide⟩
  unfold nxt at hg
  cases hl : lk L t with
  | some g' =>
    rw [hl] at hg
    cases hg
    exact hv _ (lk_some hl)
  | none =>
    rw [hl] at hg
    simp only at hg
    split at hg
    · cases hg; exact hp t ht
    · cases hg
theorem uni_lks {L : List (List Nat × List Nat)} (h : Lks L) : Uni uni L := uni_of h.nd fun p hp => List.mem_append_left _ (h.vs p hp)
theorem tag_uni (c : Int) : tagAt c ∈ uni := List.mem_append_left _ (tagAt_mem c)
theorem pure_strs : ∀ f : List (List Nat), D.pures (f.map .str) = true
  | [] => rfl
  | a :: r => by simp [D.pures, D.pure, pure_strs r]
theorem same_strs (k W : Nat) (f : List (List Nat)) : run TF W (k + 2) 8 [.tup (f.map .str), .tup (f.map .str)] = .ok (.bl true) :=
  same_refl W 1 (.tup (f.map .str)) (by simp [D.pure, pure_strs]) (by have := depth_strs (fun a : List Nat => a) f; simp [D.depth, this]) k
structure Tgs (A : List (List Nat)) : Prop where
  nd : A.Nodup
  ts : ∀ a ∈ A, a ∈ tagl
theorem Tgs.len {A : List (List Nat)} (h : Tgs A) : A.length ≤ 11 := nodup_len h.nd h.ts
def addK (A : List (List Nat)) (a : List Nat) : List (List Nat) := if a ∈ A then A else A ++ [a]
theorem putK_true (a : List Nat) : ∀ A : List (List Nat), putK (Ky.s a) (D.bl true) (A.map Ky.s) (A.map fun _ => D.bl true) = ((addK A a).map Ky.s, (addK A a).map fun _ => D.bl true)
  | [] => rfl
  | p :: r => by
    have ih := putK_true a r
    unfold addK at ih ⊢
    by_cases h : p = a
    · simp [putK, h]
    · have h' : ¬ a = p := fun e => h e.symm
      simp only [List.map_cons, putK, Ky.s.injEq, h, if_false, ih, List.mem_cons, h', false_or]
      split <;> simp
theorem Tgs.add {A : List (List Nat)} (h : Tgs A) {a : List Nat} (ha : a ∈ tagl) : Tgs (addK A a) := by
  unfold addK
  split
  · exact h
  · rename_i hn
    refine ⟨?_, fun x hx => ?_⟩
    · rw [List.nodup_append]
      refine ⟨h.nd, by simp, fun x hx y hy e => ?_⟩
      simp at hy
      subst hy e
      exact hn hx
    · rcases List.mem_append.mp hx with z | z
      · exact h.ts x z
      · simp at z; rw [z]; exact ha
theorem strsO_keys (A : List (List Nat)) : strsO ((A.map Ky.s).map kyD) = some A := by
  rw [List.map_map]
  have := strsO_map (fun a : List Nat => a) A
  simpa [kyD, Function.comp_def] using this
theorem sort_tag {l : List (List Nat)} (nd : l.Nodup) (hs : ∀ x ∈ l, x ∈ tagl) : sortS l = tagl.filter fun t => decide (t ∈ l) := by
  have p5 : tagl.Pairwise leS := by unfold leS; decide
  refine List.Perm.eq_of_pairwise (fun a b _ _ => leS_anti) (sortS_pw l) (p5.sublist List.filter_sublist) ((sortS_perm l).trans ?_)
  refine (List.perm_ext_iff_of_nodup nd ((by decide : tagl.Nodup).sublist List.filter_sublist)).mpr fun x => ?_
  rw [List.mem_filter, decide_eq_true_eq]
  exact ⟨fun h => ⟨hs x h, h⟩, fun h => h.2⟩
theorem some_tags4 (k W : Nat) (c m : Int) (h0 : 0 ≤ m) (h1 : m ≤ 20) : ∃ A, run TF W (k + 3) 14 [.int c, .int m] = .ok (.tup (A.map .str)) ∧ Tgs A ∧ A = tagl.filter fun t => decide (t ∈ A) := by
  rw [run_eq (fn := f_law_some_tags) rfl rfl]
  have g0 := mixZ_nn c 9967 (m + 1) (by omega)
  have g1 := mixZ_lt c 9967 (m + 1) (by omega)
  have s7 : small (7 : Int) = true := by decide
  obtain ⟨ρ', e, A, r3, hA, hρ⟩ := forF_inv (bd := exs (run TF W (k + 2)) W [2] f_law_some_tags_b1) (tg := .one 3) (I := fun ρ => ∃ A r3, Tgs A ∧ ρ = [some (.int c), some (.int m), some (.dk (A.map Ky.s) (A.map fun _ => D.bl true)), r3]) (ds := rngF 0 (mixZ c 9967 (m + 1)).toNat) (ρ := [some (.int c), some (.int m), some (.dk [] []), none]) ⟨[], none, ⟨(by simp), (fun p hp => nomatch hp)⟩, rfl⟩ (fun d hd ρ ⟨A, r3, hA, hρ⟩ => by
    obtain ⟨j, rfl, _, _⟩ := rng_mem _ _ hd
    subst hρ
    refine ⟨_, ?_, addK A (tagAt (c + 7 * j)), some (.int j), hA.add (tagAt_mem _), rfl⟩
    simp [f_law_some_tags_b1, s7, tag_spec, putK_true, lim50 (show A.length ≤ 50 by have := hA.len; omega)])
  subst hρ
  refine ⟨sortS A, ?_, ⟨(sortS_perm A).nodup_iff.mpr hA.nd, fun a ha => hA.ts a ((sortS_perm A).mem_iff.mp ha)⟩, ?_⟩
  · have hl : A.length < 64 := by have := hA.len; omega
    simp [f_law_some_tags, bind_assoc', -rng_int, mix_spec (k + 1) W c 9967 (m + 1) (by omega) (by omega) (by omega), rngOk g0 (by omega), e, strsO_keys, hl, -List.map_map]
  · conv => lhs; rw [sort_tag hA.nd hA.ts]
    refine List.filter_congr fun x hx => ?_
    rw [Bool.eq_iff_iff, decide_eq_true_eq, decide_eq_true_eq]
    exact (sortS_perm A).mem_iff.symm
/-! rules -/
structure Test where
  rest : Int
  low : Int
  high : Int
  isIn : Bool
abbrev Rule := List Nat × List (List Test)
def tsD (t : Test) : D := .tup [.int t.rest, .int t.low, .int t.high, .bl t.isIn]
def chD (c : List Test) : D := .tup (c.map tsD)
def ruD (r : Rule) : D := .tup [.str r.1, .tup (r.2.map chD)]
def rulesD (R : List Rule) : D := .tup (R.map ruD)
structure TestOk (t : Test) : Prop where
  r : t.rest = 0 ∨ t.rest = 2 ∨ t.rest = 5 ∨ t.rest = 10 ∨ t.rest = 100
  l : 0 ≤ t.low
  lh : t.low ≤ t.high
  h : t.high ≤ 999
def words5 : List (List Nat) := [[111, 110, 101], [102, 101, 119], [122, 101, 114, 111], [109, 97, 110, 121], [116, 119, 111]]
def otherS : List Nat := [111, 116, 104, 101, 114]
structure RulesOk (R : List Rule) : Prop where
  ts : ∀ r ∈ R, ∀ c ∈ r.2, ∀ t ∈ c, TestOk t
  nm : (R.map (·.1)).Sublist words5
  ch : ∀ r ∈ R, r.2.length ≤ 10 ∧ ∀ c ∈ r.2, c.length ≤ 10
def absI (n : Int) : Int := if n < 0 then -n else n
theorem absI_nn (n : Int) : 0 ≤ absI n := by unfold absI; split <;> omega
theorem absI_neg (n : Int) : absI (-n) = absI n := by unfold absI; split <;> split <;> omega
def remT (t : Test) (n : Int) : Int := if 0 < t.rest then absI n % t.rest else absI n
def holdsT (n : Int) (t : Test) : Bool := (decide (t.low ≤ remT t n) && decide (remT t n ≤ t.high)) == t.isIn
def ruleT (n : Int) (r : Rule) : Bool := r.2.any fun c => c.all (holdsT n)
def catT (R : List Rule) (n : Int) : List Nat := (R.findSome? fun r => if ruleT n r then some r.1 else none).getD otherS
theorem pick6 {i : Int} (h0 : 0 ≤ i) (h1 : i < 6) : ∃ r j m, atO [D.int 0, .int 0, .int 2, .int 5, .int 10, .int 100] i = some (.int r) ∧ (r = 0 ∨ r = 2 ∨ r = 5 ∨ r = 10 ∨ r = 100) ∧
    u2D .tix (.tup [.int 0, .int 2, .int 5, .int 10, .int 100]) (.int r) = .ok (.int j) ∧ atO [D.int 12, .int 1, .int 4, .int 9, .int 99] j = some (.int m) ∧ 0 ≤ m ∧ m ≤ 99 := by
  have : i = 0 ∨ i = 1 ∨ i = 2 ∨ i = 3 ∨ i = 4 ∨ i = 5 := by omega
  rcases this with rfl | rfl | rfl | rfl | rfl | rfl
  · exact ⟨0, 0, 12, rfl, .inl rfl, rfl, rfl, by omega, by omega⟩
  · exact ⟨0, 0, 12, rfl, .inl rfl, rfl, rfl, by omega, by omega⟩
  · exact ⟨2, 1, 1, rfl, .inr (.inl rfl), rfl, rfl, by omega, by omega⟩
  · exact ⟨5, 2, 4, rfl, .inr (.inr (.inl rfl)), rfl, rfl, by omega, by omega⟩
  · exact ⟨10, 3, 9, rfl, .inr (.inr (.inr (.inl rfl))), rfl, rfl, by omega, by omega⟩
  · exact ⟨100, 4, 99, rfl, .inr (.inr (.inr (.inr rfl))), rfl, rfl, by omega, by omega⟩
theorem test_spec (k W : Nat) (c : Int) : ∃ t, run TF W (k + 2) 55 [.int c] = .ok (tsD t) ∧ TestOk t := by
  rw [run_eq (fn := f_law_test) rfl rfl]
  obtain ⟨r, j, m, e1, hr, e2, e3, m0, m1⟩ := pick6 (mixZ_nn c 9857 6 (by omega)) (mixZ_lt c 9857 6 (by omega))
  have x1 := mix_spec k W c 9857 6 (by omega) (by omega) (by omega)
  have x2 := mix_spec k W c 9851 (m + 1) (by omega) (by omega) (by omega)
  have x3 := mix_spec k W c 9839 4 (by omega) (by omega) (by omega)
  have x4 := mix_spec k W c 9833 12 (by omega) (by omega) (by omega)
  have x5 := mix_spec k W c 9829 4 (by omega) (by omega) (by omega)
  have l0 := mixZ_nn c 9851 (m + 1) (by omega)
  have l1 := mixZ_lt c 9851 (m + 1) (by omega)
  have g0 := mixZ_nn c 9839 4 (by omega)
  generalize mixZ c 9851 (m + 1) = low at *
  generalize mixZ c 9839 4 = gap at *
  generalize mixZ c 9829 4 = q at *
  generalize mixZ c 9857 6 = w at *
  generalize mixZ c 9833 12 = z at *
  by_cases h0 : z = 0
  · refine ⟨⟨r, low, 999, decide (0 < q)⟩, ?_, ⟨hr, l0, by dsimp only; omega, by dsimp only; omega⟩⟩
    simp [f_law_test, x1, e1, e2, e3, x2, x3, x4, x5, h0, tsD]
  · refine ⟨⟨r, low, if 999 < low + gap then 999 else low + gap, decide (0 < q)⟩, ?_, ⟨hr, l0, by dsimp only; split <;> omega, by dsimp only; split <;> omega⟩⟩
    simp [f_law_test, x1, e1, e2, e3, x2, x3, x4, x5, h0, tsD]
theorem ev55 (F : Nat → List D → R D) (c j q i : Int) {r1 r3 r4 r6 : Option D} {d : D} (h : F 55 [.int (c + 23 * j + 29 * i + 31 * q)] = .ok d) :
    ev F (.call 55 [(.bin .add (.bin .add (.bin .add (.var 0) (.bin .mul (.cst (.int 23)) (.var 5))) (.bin .mul (.cst (.int 29)) (.var 7))) (.bin .mul (.cst (.int 31)) (.var 2)))]) [some (.int c), r1, some (.int q), r3, r4, some (.int j), r6, some (.int i)] = .ok d := by
  have s1 : small (23 : Int) = true := by decide
  have s2 : small (29 : Int) = true := by decide
  have s3 : small (31 : Int) = true := by decide
  simp [s1, s2, s3, h]
theorem lc_gen (F : Nat → List D → R D) (c j q : Int) (n : Nat) (hn : n ≤ 10) (f : Nat → D) (h : ∀ i : Nat, F 55 [.int (c + 23 * j + 29 * (i : Int) + 31 * q)] = .ok (f i)) {r1 r3 r4 r7 : Option D} :
    ev F (.lc [7] (.one 7) (.rng1 (.var 6)) [] (.call 55 [(.bin .add (.bin .add (.bin .add (.var 0) (.bin .mul (.cst (.int 23)) (.var 5))) (.bin .mul (.cst (.int 29)) (.var 7))) (.bin .mul (.cst (.int 31)) (.var 2)))])) [some (.int c), r1, some (.int q), r3, r4, some (.int j), some (.int (n : Int)), r7] = .ok (.lst ((List.range n).map f)) := by
  rw [ev_lcS]
  rw [its_rngN (n := n) rfl (by omega), okb, mapF_of (ψ := f) fun i _ => by
    unfold elF
    simp only [bindT, wipeR, setR, List.set_cons_zero, List.set_cons_succ, tsts_nil, ok_bind, if_true]
    rw [ev55 F c j q (i : Int) (h i)]
    rfl]
  rfl
theorem lc_tests (k W : Nat) (c j q : Int) (n : Nat) (hn : n ≤ 10) {r1 r3 r4 r7 : Option D} :
    ∃ ts : List Test, ev (run TF W (k + 2)) (.lc [7] (.one 7) (.rng1 (.var 6)) [] (.call 55 [(.bin .add (.bin .add (.bin .add (.var 0) (.bin .mul (.cst (.int 23)) (.var 5))) (.bin .mul (.cst (.int 29)) (.var 7))) (.bin .mul (.cst (.int 31)) (.var 2)))])) [some (.int c), r1, some (.int q), r3, r4, some (.int j), some (.int (n : Int)), r7] = .ok (.lst (ts.map tsD)) ∧ (∀ t ∈ ts, TestOk t) ∧ ts.length ≤ 10 := by
  obtain ⟨f, hf⟩ := Classical.axiomOfChoice fun i : Nat => test_spec k W (c + 23 * j + 29 * (i : Int) + 31 * q)
  refine ⟨(List.range n).map f, ?_, fun t ht => ?_, by rw [List.length_map, List.length_range]; exact hn⟩
  · rw [lc_gen (run TF W (k + 2)) c j q n hn (fun i => tsD (f i)) (fun i => (hf i).1), List.map_map]; rfl
  · obtain ⟨i, _, rfl⟩ := List.mem_map.mp ht
    exact (hf i).2
theorem choices_loop (k W : Nat) (c q : Int) (R w : D) (n : Nat) (hn : n ≤ 10) {r5 r6 r7 : Option D} : ∃ (cs : List (List Test)) (q5 q6 q7 : Option D), (∀ x ∈ cs, (∀ t ∈ x, TestOk t) ∧ x.length ≤ 10) ∧ cs.length ≤ 10 ∧
    forF (exs (run TF W (k + 2)) W [1, 4] f_law_rules_b1) (.one 5) ((List.range n).map fun k => D.int ((k : Nat) : Int)) [some (.int c), some R, some (.int q), some w, some (.lst []), r5, r6, r7] = .ok (.nx [some (.int c), some R, some (.int q), some w, some (.lst (cs.map chD)), q5, q6, q7]) := by
  obtain ⟨ρ', e, cs, q5, q6, q7, hc, hlen, rfl⟩ := forF_acc (φ := fun k : Nat => D.int (k : Int)) (bd := exs (run TF W (k + 2)) W [1, 4] f_law_rules_b1) (tg := .one 5)
    (I := fun done ρ => ∃ (cs : List (List Test)) (q5 q6 q7 : Option D), (∀ x ∈ cs, (∀ t ∈ x, TestOk t) ∧ x.length ≤ 10) ∧ cs.length = done.length ∧ ρ = [some (.int c), some R, some (.int q), some w, some (.lst (cs.map chD)), q5, q6, q7])
    (l0 := List.range n) (by
    rintro done j rest ρ hd ⟨cs, q5, q6, q7, hc, hlen, rfl⟩
    have hdl : done.length < n := by have := congrArg List.length hd; simp at this; omega
    have s5 : small (5 : Int) = true := by decide
    have m0 := mixZ_nn (c + 5 * (j : Int) + q) 9803 2 (by omega)
    have m1 := mixZ_lt (c + 5 * (j : Int) + q) 9803 2 (by omega)
    have x1 := mix_spec (k + 1) W (c + 5 * (j : Int) + q) 9803 2 (by omega) (by omega) (by omega)
    obtain ⟨N, hN⟩ : ∃ N : Nat, 1 + mixZ (c + 5 * (j : Int) + q) 9803 2 = (N : Int) := ⟨(1 + mixZ (c + 5 * (j : Int) + q) 9803 2).toNat, by omega⟩
    obtain ⟨ts, e, h1, h2⟩ := lc_tests k W c (j : Int) q N (by omega) (r1 := some R) (r3 := some w) (r4 := some (.lst (cs.map chD))) (r7 := q7)
    have hl : (cs.map chD).length < LIM := by rw [List.length_map]; exact limS (by omega)
    have hev : ev (run TF W (k + 2)) (.blt .tuple (.lc [7] (.one 7) (.rng1 (.var 6)) [] (.call 55 [(.bin .add (.bin .add (.bin .add (.var 0) (.bin .mul (.cst (.int 23)) (.var 5))) (.bin .mul (.cst (.int 29)) (.var 7))) (.bin .mul (.cst (.int 31)) (.var 2)))]))) [some (.int c), some R, some (.int q), some w, some (.lst (cs.map chD)), some (.int (j : Int)), some (.int (N : Int)), q7] = .ok (chD ts) := by
      rw [ev_blt, e, ok_bind]; rfl
    have hap := ex_appN (F := run TF W (k + 2)) (W := W) (M := [1, 4]) (i := 4) (ρ := [some (.int c), some R, some (.int q), some w, some (.lst (cs.map chD)), some (.int (j : Int)), some (.int (N : Int)), q7]) (xs := cs.map chD) rfl hev hl
    refine ⟨[some (.int c), some R, some (.int q), some w, some (.lst ((cs ++ [ts]).map chD)), some (.int (j : Int)), some (.int (N : Int)), q7], ?_, cs ++ [ts], some (.int j), some (.int N), q7, fun x hx => ?_, by simp [hlen], rfl⟩
    · simp [f_law_rules_b1, s5, x1, hN, -ev_lcS, -ex_app, -ev_blt, hap]
    · rcases List.mem_append.mp hx with z | z
      · exact hc x z
      · have : x = ts := by simpa using z
        rw [this]; exact ⟨h1, h2⟩) (l := List.range n) (done := []) (ρ := [some (.int c), some R, some (.int q), some w, some (.lst []), r5, r6, r7]) rfl ⟨[], r5, r6, r7, (fun x hx => nomatch hx), rfl, rfl⟩
  exact ⟨cs, q5, q6, q7, hc, by simp at hlen; omega, e⟩
theorem enum_map (n : Nat) : ∀ (l : List (List Nat)), enumF n (l.map .str) = (l.zipIdx n).map fun p => D.tup [.int ((p.2 : Nat) : Int), .str p.1]
  | [] => rfl
  | a :: r => by simp [enumF, enum_map (n + 1) r]
theorem rules_spec (k W : Nat) (c : Int) : ∃ R, run TF W (k + 3) 56 [.int c] = .ok (rulesD R) ∧ RulesOk R := by
  rw [run_eq (fn := f_law_rules) rfl rfl]
  have en : enmD (.tup [.str [111, 110, 101], .str [102, 101, 119], .str [122, 101, 114, 111], .str [109, 97, 110, 121], .str [116, 119, 111]]) = .ok ((words5.zipIdx 0).map fun p => D.tup [.int ((p.2 : Nat) : Int), .str p.1]) := rfl
  obtain ⟨ρ', e, R, r2, r3, r4, r5, r6, r7, hR, hs, rfl⟩ := forF_acc (φ := fun p : List Nat × Nat => D.tup [.int ((p.2 : Nat) : Int), .str p.1]) (bd := exs (run TF W (k + 2)) W [1, 4] f_law_rules_b2) (tg := .tup [2, 3])
    (I := fun done ρ => ∃ (R : List Rule) (r2 r3 r4 r5 r6 r7 : Option D), (∀ r ∈ R, (∀ x ∈ r.2, (∀ t ∈ x, TestOk t) ∧ x.length ≤ 10) ∧ r.2.length ≤ 10) ∧ (R.map (·.1)).Sublist (done.map (·.1)) ∧ ρ = [some (.int c), some (.lst (R.map ruD)), r2, r3, r4, r5, r6, r7])
    (l0 := words5.zipIdx 0) (by
    rintro done p rest ρ hd ⟨R, r2, r3, r4, r5, r6, r7, hR, hs, rfl⟩
    obtain ⟨wd, q⟩ := p
    have hdl : done.length < 5 := by have := congrArg List.length hd; simp [words5] at this; omega
    have hRl : R.length < LIM := by have := hs.length_le; simp at this; exact limS (by omega)
    have s3 : small (3 : Int) = true := by decide
    have x1 := mix_spec (k + 1) W (c + (q : Int)) 9817 5 (by omega) (by omega) (by omega)
    have x2 := mix_spec (k + 1) W (c + 3 * (q : Int)) 9811 3 (by omega) (by omega) (by omega)
    have m0 := mixZ_nn (c + 3 * (q : Int)) 9811 3 (by omega)
    have m1 := mixZ_lt (c + 3 * (q : Int)) 9811 3 (by omega)
    have hb0 : 0 ≤ b2i ((q : Int) == 0) ∧ b2i ((q : Int) == 0) ≤ 1 := by unfold b2i; split <;> omega
    generalize hbb : b2i ((q : Int) == 0) = bb at *
    have hbi : bltD .int (.bl ((q : Int) == 0)) = .ok (.int bb) := by rw [← hbb]; rfl
    generalize mixZ (c + (q : Int)) 9817 5 = z1 at *
    generalize mixZ (c + 3 * (q : Int)) 9811 3 = z2 at *
    by_cases hz : 2 - bb < z1
    · obtain ⟨cs, q5, q6, q7, hc, hcl, ef⟩ := choices_loop k W c (q : Int) (.lst (R.map ruD)) (.str wd) (z2 + bb).toNat (by omega) (r5 := r5) (r6 := r6) (r7 := r7)
      refine ⟨_, ?_, R ++ [(wd, cs)], some (.int q), some (.str wd), some (.lst (cs.map chD)), q5, q6, q7, fun r hr => ?_, by simp; exact hs, rfl⟩
      · simp [f_law_rules_b2, x1, x2, s3, hz, hbi, -rng_int, rngA (show (0 : Int) ≤ z2 + bb by omega) (by omega), ef, hRl, ruD]
      · rcases List.mem_append.mp hr with z | z
        · exact hR r z
        · have : r = (wd, cs) := by simpa using z
          rw [this]; exact ⟨hc, hcl⟩
    · refine ⟨_, ?_, R, some (.int q), some (.str wd), r4, r5, r6, r7, hR, by simp; exact hs.trans (List.sublist_append_left _ _), rfl⟩
      simp [f_law_rules_b2, x1, hz, hbi]) (l := words5.zipIdx 0) (done := []) (ρ := [some (.int c), some (.lst []), none, none, none, none, none, none]) rfl ⟨[], none, none, none, none, none, none, (fun x hx => nomatch hx), .slnil, rfl⟩
  refine ⟨R, ?_, fun r hr x hx t ht => ((hR r hr).1 x hx).1 t ht, hs, fun r hr => ⟨(hR r hr).2, fun x hx => ((hR r hr).1 x hx).2⟩⟩
  simp [f_law_rules, -enm_tup, en, e, rulesD]
/-! messages -/
def TXT : List Nat := [116, 101, 120, 116]
def MRK : List Nat := [109, 97, 114, 107]
def SLT : List Nat := [115, 108, 111, 116]
def CNT : List Nat := [99, 111, 117, 110, 116]
def KND : List Nat := [107, 105, 110, 100]
def isKey (d : D) : Prop := (∃ i : Int, d = .int i ∧ 0 ≤ i ∧ i < 10) ∨ ∃ s, d = .str s ∧ s.length ≤ 10
def isCase (M : List D → Prop) (c : D) : Prop := ∃ k ms, c = .tup [k, .tup ms] ∧ isKey k ∧ M ms
def isPart (M : List D → Prop) (p : D) : Prop :=
  (∃ s, p = .tup [.str TXT, .str s] ∧ s.length ≤ 10) ∨ p = .tup [.str MRK] ∨ (∃ s, p = .tup [.str SLT, .str s] ∧ s.length ≤ 10) ∨
  ∃ w nm cs, p = .tup [.str w, .str nm, .tup cs] ∧ (w = CNT ∨ w = KND) ∧ nm.length ≤ 10 ∧ cs ≠ [] ∧ cs.length ≤ 8 ∧ ∀ c ∈ cs, isCase M c
def Msg : Nat → List D → Prop
  | 0 => fun _ => False
  | n + 1 => fun ps => ps.length ≤ 3 ∧ ∀ p ∈ ps, isPart (Msg n) p
def escC (c : Nat) : List Nat := if c ∈ [123, 125, 35, 92] then [92, c] else [c]
def esc (s : List Nat) : List Nat := s.flatMap escC
def keyS : D → List Nat
  | .int i => 61 :: intS i
  | .str s => s
  | _ => []
def wrC (f : List D → List Nat) : D → List Nat
  | .tup [k, .tup ms] => keyS k ++ [32, 123] ++ f ms ++ [125]
  | _ => []
def wrP (f : List D → List Nat) : D → List Nat
  | .tup [.str _] => [35]
  | .tup [.str w, .str s] => if w = TXT then esc s else [123] ++ s ++ [125]
  | .tup [.str w, .str nm, .tup cs] => [123] ++ nm ++ [44, 32] ++ w ++ [44] ++ (cs.flatMap fun c => 32 :: wrC f c) ++ [125]
  | _ => []
def wr : Nat → List D → List Nat
  | 0 => fun _ => []
  | n + 1 => fun ps => ps.flatMap (wrP (wr n))
def pB (B : Nat) : Nat := 60 + 8 * (20 + B)
def lenB : Nat → Nat
  | 0 => 0
  | n + 1 => 3 * pB (lenB n)
theorem flat_le {α β : Type} {f : α → List β} {B : Nat} : ∀ {l : List α}, (∀ a ∈ l, (f a).length ≤ B) → (l.flatMap f).length ≤ l.length * B
  | [], _ => by simp
  | a :: r, h => by
    have h1 := h a List.mem_cons_self
    have h2 := flat_le (l := r) fun x hx => h x (List.mem_cons_of_mem _ hx)
    rw [List.flatMap_cons, List.length_append, List.length_cons, Nat.succ_mul]
    omega
theorem esc_len (s : List Nat) : (esc s).length ≤ s.length * 2 := flat_le fun c _ => by unfold escC; split <;> simp
theorem intS_len {i : Int} (h0 : 0 ≤ i) (h1 : i < 10) : (intS i).length ≤ 2 := by
  have : ∀ j : Nat, j < 10 → (intS (j : Int)).length ≤ 2 := by decide
  have e : i = ((i.toNat : Nat) : Int) := by omega
  rw [e]; exact this i.toNat (by omega)
theorem key_len {d : D} (h : isKey d) : (keyS d).length ≤ 10 := by
  rcases h with ⟨i, rfl, h0, h1⟩ | ⟨s, rfl, hs⟩
  · have := intS_len h0 h1; simp [keyS]; omega
  · exact hs
theorem wrC_len {M : List D → Prop} {f : List D → List Nat} {B : Nat} (hf : ∀ ms, M ms → (f ms).length ≤ B) {c : D} (h : isCase M c) : (32 :: wrC f c).length ≤ 20 + B := by
  obtain ⟨k, ms, rfl, hk, hm⟩ := h
  have := key_len hk
  have := hf ms hm
  simp [wrC]; omega
theorem wrP_len {M : List D → Prop} {f : List D → List Nat} {B : Nat} (hf : ∀ ms, M ms → (f ms).length ≤ B) {p : D} (h : isPart M p) : (wrP f p).length ≤ pB B := by
  unfold pB
  rcases h with ⟨s, rfl, hs⟩ | rfl | ⟨s, rfl, hs⟩ | ⟨w, nm, cs, rfl, hw, hn, h0, h8, hc⟩
  · have := esc_len s
    simp [wrP]; omega
  · simp [wrP]; omega
  · simp [wrP, SLT, TXT]; omega
  · have h1 := flat_le (f := fun c => 32 :: wrC f c) (l := cs) (B := 20 + B) fun c hcc => wrC_len hf (hc c hcc)
    have h2 : cs.length * (20 + B) ≤ 8 * (20 + B) := Nat.mul_le_mul_right _ h8
    have hw' : w.length ≤ 5 := by rcases hw with rfl | rfl <;> decide
    simp only [wrP, List.length_append, List.length_cons, List.length_nil]
    omega
theorem wr_len : ∀ {n : Nat} {ps : List D}, Msg n ps → (wr n ps).length ≤ lenB n
  | 0, _, h => h.elim
  | n + 1, ps, ⟨h3, hp⟩ => by
    have h1 := flat_le (f := wrP (wr n)) (l := ps) (B := pB (lenB n)) fun p hpp => wrP_len (fun ms hm => wr_len hm) (hp p hpp)
    exact Nat.le_trans h1 (Nat.mul_le_mul_right _ h3)
theorem join_nil : ∀ l : List (List Nat), joinS [] l = l.flatten
  | [] => rfl
  | [p] => by simp [joinS]
  | p :: q :: r => by rw [joinS, join_nil (q :: r)]; simp
theorem join_sp : ∀ (l : List (List Nat)), l ≠ [] → 32 :: joinS [32] l = l.flatMap fun c => 32 :: c
  | [], h => (h rfl).elim
  | [p], _ => by simp [joinS]
  | p :: q :: r, _ => by
    have := join_sp (q :: r) (by simp)
    rw [joinS, List.flatMap_cons, ← this]
    simp
theorem sum_flat (l : List (List Nat)) : (l.map (·.length)).sum = l.flatten.length := by rw [List.length_flatten]
theorem joinE {l : List D} {g : D → List Nat} (h : (l.flatMap g).length ≤ LIM) : mthD .join [] (.lst (l.map fun p => .str (g p))) = .ok (.str (l.flatMap g)) := by
  rw [join_lst, strsO_map g l, ofO_some, okb, sum_flat, join_nil]
  rw [← List.flatMap_def] at *
  rw [if_pos (by simpa using h)]
theorem lim_e {n : Nat} (h : n ≤ 16000000) : n ≤ LIM := Nat.le_trans h (by decide)
theorem add_strL {a b : List Nat} (h : a.length + b.length ≤ 16000000) : op2D .add (.str a) (.str b) = .ok (.str (a ++ b)) := by rw [add_str, if_pos (lim_e h)]
theorem eat0 (a : D) (r : List D) : atO (a :: r) 0 = some a := by simp [atO, ixO]
theorem eat1 (a b : D) (r : List D) : atO (a :: b :: r) 1 = some b := by rw [at_in .non (by omega) (by simp only [List.length_cons]; omega)]; rfl
theorem eat2 (a b c : D) (r : List D) : atO (a :: b :: c :: r) 2 = some c := by rw [at_in .non (by omega) (by simp only [List.length_cons]; omega)]; rfl
/-! drawn messages -/
theorem getD_mem {α : Type} {l : List α} {i : Nat} (d : α) (h : i < l.length) : l.getD i d ∈ l := by
  simp [List.getD, h]
theorem flat_one {α β : Type} (f : α → β) : ∀ l : List α, (l.flatMap fun a => [f a]) = l.map f
  | [] => rfl
  | a :: r => by rw [List.flatMap_cons, flat_one f r]; rfl
theorem atTup {l : List (List Nat)} {i : Int} (h0 : 0 ≤ i) (h1 : i < l.length) : ∃ s ∈ l, atO (l.map D.str) i = some (.str s) := by
  refine ⟨l.getD i.toNat [], ?_, ?_⟩
  · exact getD_mem [] (by omega)
  · rw [at_map, at_in [] h0 h1]; rfl
def textl : List (List Nat) := [[97], [101, 105, 110], [123], [125], [35], [92], [97, 32, 35, 32, 98], [44, 32], [32, 123, 120, 125], [111]]
def signl : List Nat := [32, 33, 34, 35, 36, 38, 39, 40, 41, 42, 43, 44, 45, 46, 47, 48, 49, 50, 51, 52, 53, 54, 55, 56, 57, 58, 59, 60, 61, 62, 63, 64, 65, 66, 67, 68, 69, 70, 71, 72, 73, 74, 75, 76, 77, 78, 79, 80, 81, 82, 83, 84, 85, 86, 87, 88, 89, 90, 91, 92, 93, 94, 95, 96, 97, 98, 99, 100, 101, 102, 103, 104, 105, 106, 107, 108, 109, 110, 111, 112, 113, 114, 115, 116, 117, 118, 119, 120, 121, 122, 123, 124, 125, 126]
def namel : List (List Nat) := [[97], [110], [119, 104, 111], [102, 105, 108, 101], [122, 122, 122, 122, 122, 122]]
theorem name_spec (k W : Nat) (c : Int) : ∃ s ∈ namel, run TF W (k + 2) 28 [.int c] = .ok (.str s) := by
  rw [run_eq (fn := f_law_name) rfl rfl]
  have b0 := mixZ_nn c 9923 5 (by omega)
  have b1 := mixZ_lt c 9923 5 (by omega)
  obtain ⟨s, hs, e⟩ := atTup (l := namel) b0 b1
  refine ⟨s, hs, ?_⟩
  simp only [namel, List.map_cons, List.map_nil] at e
  simp [f_law_name, mix_spec k W c 9923 5 (by omega) (by omega) (by omega), e]
theorem textl_ok : ∀ s ∈ textl, s ≠ [] ∧ s.length ≤ 10 ∧ ∀ x ∈ s, x ∈ signl := by decide
theorem text_spec (k W : Nat) (c : Int) : ∃ s, run TF W (k + 2) 27 [.int c] = .ok (.str s) ∧ s ≠ [] ∧ s.length ≤ 10 ∧ ∀ x ∈ s, x ∈ signl := by
  rw [run_eq (fn := f_law_text) rfl rfl]
  by_cases h3 : c % 3 = 0
  · have b0 := mixZ_nn c 9941 10 (by omega)
    have b1 := mixZ_lt c 9941 10 (by omega)
    obtain ⟨s, hs, e⟩ := atTup (l := textl) b0 b1
    refine ⟨s, ?_, ?_⟩
    · simp only [textl, List.map_cons, List.map_nil] at e
      simp [f_law_text, h3, mix_spec k W c 9941 10 (by omega) (by omega) (by omega), e]
    · exact textl_ok s hs
  · have b0 := mixZ_nn c 9931 4 (by omega)
    have b1 := mixZ_lt c 9931 4 (by omega)
    generalize hm : mixZ c 9931 4 = m at b0 b1
    let g : Nat → Nat := fun j => signl.getD (mixZ (c + 7 * (j : Int)) 9929 94).toNat 0
    have hg : ∀ j, g j ∈ signl ∧ atO signl (mixZ (c + 7 * (j : Int)) 9929 94) = some (g j) := fun j => by
      have d0 := mixZ_nn (c + 7 * (j : Int)) 9929 94 (by omega)
      have d1 := mixZ_lt (c + 7 * (j : Int)) 9929 94 (by omega)
      refine ⟨?_, at_in 0 d0 d1⟩
      show signl.getD _ 0 ∈ signl
      have hlt : (mixZ (c + 7 * (j : Int)) 9929 94).toNat < signl.length := by show _ < 94; omega
      exact getD_mem 0 hlt
    have s7 : small (7 : Int) = true := by decide
    have e : ∀ r3, ev (run TF W (k + 1)) (.lc [3] (.one 3) (.rng1 (.var 2)) [] (.idx (.var 1) (.call 2 [(.bin .add (.var 0) (.bin .mul (.cst (.int 7)) (.var 3))), (.cst (.int 9929)), (.blt .len (.var 1))]))) [some (.int c), some (.str signl), some (.int (1 + m)), r3] = .ok (.lst ((List.range (1 + m).toNat).map fun j => .str [g j])) := by
      intro r3
      rw [ev_lcS]
      simp only [its_rng1, ev_var, List.getD_cons_zero, List.getD_cons_succ, ofO_some, ok_bind, rngA (show 0 ≤ 1 + m by omega) (by omega)]
      rw [mapF_of (ψ := fun j => D.str [g j]) (fun j _ => by
        have e1 := mix_spec k W (c + 7 * (j : Int)) 9929 94 (by omega) (by omega) (by omega)
        have e2 := (hg j).2
        have e3 : (signl.length : Int) = 94 := rfl
        simp only [elF, wipe_cons, wipe_nil, bind_one, ok_bind, tsts_nil, if_true, ev_idx, ev_call, evs_cons, evs_nil, ev_bin, ev_blt, ev_var, ev_cst, List.set_cons_succ, List.set_cons_zero, setR_succ, setR_zero, List.getD_cons_succ, List.getD_cons_zero, ofO_some, mul_int, s7, Bool.true_or, add_int, len_str, e3, e1, idx_str, e2])]
      rfl
    have hj : mthD .join [] (.lst ((List.range (1 + m).toNat).map fun j => .str [g j])) = .ok (.str ((List.range (1 + m).toNat).map g)) := by
      rw [join_lst, strsO_map (fun j => [g j]) _, ofO_some, okb, sum_flat, join_nil, ← List.flatMap_def]
      have e5 : (List.range (1 + m).toNat).flatMap (fun j => [g j]) = (List.range (1 + m).toNat).map g := flat_one g _
      rw [e5, if_pos (lim_e (by rw [List.length_nil, Nat.mul_zero, List.length_map, List.length_range]; omega))]
    refine ⟨(List.range (1 + m).toNat).map g, ?_, ?_, ?_, ?_⟩
    · have e1 := mix_spec k W c 9931 4 (by omega) (by omega) (by omega)
      rw [hm] at e1
      have h3' : (c % 3 == 0) = false := by simpa using h3
      have el := e none
      unfold signl at el
      simp [f_law_text, h3', e1, -ev_lcS, el, hj, -join_lst]
    · simp; omega
    · simp; omega
    · intro x hx
      obtain ⟨j, _, rfl⟩ := List.mem_map.mp hx
      exact (hg j).1
theorem mapF_ex {f : D → R (Option D)} {Q : D → Prop} : ∀ {ds : List D}, (∀ d ∈ ds, ∃ r, f d = .ok (some r) ∧ Q r) → ∃ rs, mapF f ds = .ok rs ∧ rs.length = ds.length ∧ ∀ r ∈ rs, Q r
  | [], _ => ⟨[], rfl, rfl, fun r h => nomatch h⟩
  | d :: r, h => by
    obtain ⟨x, e, q⟩ := h d List.mem_cons_self
    obtain ⟨rs, e2, l2, q2⟩ := mapF_ex (ds := r) fun y hy => h y (List.mem_cons_of_mem _ hy)
    refine ⟨x :: rs, ?_, by simp [l2], fun y hy => ?_⟩
    · simp only [mapF, e, nox_ok, ok_bind, e2]
    · rcases List.mem_cons.mp hy with z | z
      · rw [z]; exact q
      · exact q2 y z
theorem enum_mem : ∀ {L : List D} {n : Nat} {d : D}, d ∈ enumF n L → ∃ (j : Nat) (x : D), d = .tup [.int j, x] ∧ x ∈ L ∧ j < n + L.length
  | x :: r, n, d, h => by
    rcases List.mem_cons.mp h with z | z
    · exact ⟨n, x, z, List.mem_cons_self, by simp⟩
    · obtain ⟨j, y, e, hy, hj⟩ := enum_mem z
      exact ⟨j, y, e, List.mem_cons_of_mem _ hy, by simp; omega⟩
theorem enum_len : ∀ (L : List D) (n : Nat), (enumF n L).length = L.length
  | [], _ => rfl
  | x :: r, n => by rw [enumF, List.length_cons, enum_len r, List.length_cons]
theorem ints_map : ∀ ns : List Int, intsO (ns.map .int) = some ns
  | [] => rfl
  | a :: r => by simp [intsO, ints_map r]
theorem insI_permW (x : Int) : ∀ l : List Int, (insI x l).Perm (x :: l)
  | [] => by simp [insI]
  | y :: r => by
    unfold insI
    split
    · exact ((insI_permW x r).cons y).trans (List.Perm.swap x y r)
    · exact List.Perm.refl _
theorem sortI_permW : ∀ l : List Int, (sortI l).Perm l
  | [] => by simp [sortI]
  | x :: r => by
    show (insI x (sortI r)).Perm _
    exact (insI_permW x _).trans ((sortI_permW r).cons x)
theorem sset_ints {ns : List Int} (h : ns.length < 64) : ssetX (ns.map .int) = .ok (.lst ((sortI (ddS ns)).map .int)) := by
  unfold ssetX
  rw [ints_map]
  dsimp only
  rw [if_pos h]
theorem sset_strs {ss : List (List Nat)} (hne : ss ≠ []) (hl : ss.length < 64) : ssetX (ss.map .str) = .ok (.lst ((sortS (ddS ss)).map .str)) := by
  have h1 : intsO (ss.map .str) = none := by
    cases ss with
    | nil => exact absurd rfl hne
    | cons a r => rfl
  have h2 : strsO (ss.map .str) = some ss := by
    have := strsO_map (fun a : List Nat => a) ss
    simpa using this
  unfold ssetX
  rw [h1]
  dsimp only
  rw [h2]
  dsimp only
  rw [if_pos hl]
def wordl : List (List Nat) := [[122, 101, 114, 111], [111, 110, 101], [116, 119, 111], [102, 101, 119], [109, 97, 110, 121]]
def kindl : List (List Nat) := [[102], [109], [115, 104, 101], [116, 104, 101, 121]]
def OTH : List Nat := [111, 116, 104, 101, 114]
theorem cut_mem {α : Type} {xs : List α} {lo hi : Option Int} {x : α} (h : x ∈ cut xs lo hi) : x ∈ xs := List.mem_of_mem_drop (List.mem_of_mem_take h)
theorem cut_lenW {α : Type} (xs : List α) (lo hi : Option Int) : (cut xs lo hi).length ≤ xs.length := by
  unfold cut
  rw [List.length_take, List.length_drop]
  omega
/-! drawn messages, with all that is known of them -/
def txB : D → Bool
  | .tup (.str w :: _) => decide (w = TXT)
  | _ => false
def adjB : List D → Bool
  | p :: q :: r => (txB p && txB q) || adjB (q :: r)
  | _ => false
def cntK (ks : List D) : Prop := ∃ (ns : List Int) (ws : List (List Nat)), ks = ns.map .int ++ ws.map .str ∧ ns.Pairwise (· < ·) ∧ (∀ i ∈ ns, 0 ≤ i ∧ i < 6) ∧ ws.Sublist wordl ∧ ns.length ≤ 2
def kndK (ks : List D) : Prop := ∃ ss : List (List Nat), ks = ss.map .str ∧ ss.Pairwise (fun a b => ltS a b = true) ∧ (∀ s ∈ ss, s ∈ kindl) ∧ ss.length ≤ 2
def keysK (w : List Nat) (ks : List D) : Prop := (w = CNT ∧ cntK ks) ∨ (w = KND ∧ kndK ks)
def csD (kms : List (D × List D)) : List D := kms.map fun x => .tup [x.1, .tup x.2]
def DmP (M : Bool → List D → Prop) (b : Bool) (p : D) : Prop :=
  (∃ s, p = .tup [.str TXT, .str s] ∧ s ≠ [] ∧ s.length ≤ 10 ∧ ∀ x ∈ s, x ∈ signl) ∨ (p = .tup [.str MRK] ∧ b = true) ∨ (∃ s, p = .tup [.str SLT, .str s] ∧ s ∈ namel) ∨
  ∃ w nm kms ks, p = .tup [.str w, .str nm, .tup (csD kms)] ∧ nm ∈ namel ∧ kms.map (·.1) = ks ++ [.str OTH] ∧ keysK w ks ∧ ∀ x ∈ kms, M (b || decide (w = CNT)) x.2
def Dm : Nat → Bool → List D → Prop
  | 0 => fun _ _ => False
  | n + 1 => fun b ps => ps.length ≤ 3 ∧ adjB ps = false ∧ ∀ p ∈ ps, DmP (Dm n) b p
theorem keysK_w {w : List Nat} {ks : List D} (h : keysK w ks) : w = CNT ∨ w = KND := h.imp And.left And.left
theorem keysK_len {w : List Nat} {ks : List D} (h : keysK w ks) : ks.length ≤ 7 := by
  rcases h with ⟨_, ns, ws, rfl, _, _, hs, hl⟩ | ⟨_, ss, rfl, _, _, hl⟩
  · have := hs.length_le
    have : wordl.length = 5 := rfl
    simp; omega
  · simp; omega
theorem kms_len {w : List Nat} {ks : List D} {kms : List (D × List D)} (h : keysK w ks) (e : kms.map (·.1) = ks ++ [.str OTH]) : kms.length ≤ 8 ∧ kms ≠ [] := by
  have h1 := keysK_len h
  have h2 := congrArg List.length e
  simp at h2
  exact ⟨by omega, fun z => by rw [z] at h2; simp at h2⟩
theorem dmP_mono {M M' : Bool → List D → Prop} (h : ∀ b ms, M b ms → M' b ms) {b : Bool} {p : D} (hp : DmP M b p) : DmP M' b p := by
  rcases hp with z | z | z | ⟨w, nm, kms, ks, e, hn, hk, kk, hm⟩
  · exact .inl z
  · exact .inr (.inl z)
  · exact .inr (.inr (.inl z))
  · exact .inr (.inr (.inr ⟨w, nm, kms, ks, e, hn, hk, kk, fun x hx => h _ _ (hm x hx)⟩))
theorem dm_up : ∀ {n : Nat} {b : Bool} {ps : List D}, Dm n b ps → Dm (n + 1) b ps
  | 0, _, _, h => h.elim
  | n + 1, b, ps, ⟨h1, h2, h3⟩ => ⟨h1, h2, fun p hp => dmP_mono (fun _ _ z => dm_up z) (h3 p hp)⟩
theorem dm_le {n m : Nat} (h : n ≤ m) {b : Bool} {ps : List D} (d : Dm n b ps) : Dm m b ps := by
  induction h with
  | refl => exact d
  | step _ ih => exact dm_up ih
theorem dm_head {M : Bool → List D → Prop} {b : Bool} {p : D} (h : DmP M b p) : ∃ w r, p = .tup (.str w :: r) := by
  rcases h with ⟨s, rfl, _⟩ | ⟨rfl, _⟩ | ⟨s, rfl, _⟩ | ⟨w, nm, kms, ks, rfl, _⟩ <;> exact ⟨_, _, rfl⟩
theorem pw_sortI2 : ∀ {ns : List Int}, ns.length ≤ 2 → (sortI (ddS ns)).Pairwise (· < ·)
  | [], _ => .nil
  | [a], _ => by simp [ddS, sortI, insI]
  | [a, b], _ => by
    by_cases h : a = b
    · subst h; simp [ddS, sortI, insI]
    · by_cases h2 : b < a
      · simp [ddS, sortI, insI, h, h2]
      · have h3 : a < b := by omega
        simp [ddS, sortI, insI, h, h2, h3]
  | _ :: _ :: _ :: _, h => by simp at h
def wsel (b0 b1 b2 b3 b4 : Bool) : List (List Nat) := (if b0 then [[122, 101, 114, 111]] else []) ++ ((if b1 then [[111, 110, 101]] else []) ++ ((if b2 then [[116, 119, 111]] else []) ++ ((if b3 then [[102, 101, 119]] else []) ++ (if b4 then [[109, 97, 110, 121]] else []))))
theorem wsel_sub : ∀ b0 b1 b2 b3 b4 : Bool, (wsel b0 b1 b2 b3 b4).isSublist wordl = true := by
  intro b0 b1 b2 b3 b4
  cases b0 <;> cases b1 <;> cases b2 <;> cases b3 <;> cases b4 <;> decide
theorem wsel_eq (p : Int → Bool) : (((enumF 0 (wordl.map .str)).filter fun d => match d with | .tup [.int i, _] => p i | _ => false).map fun d => match d with | .tup [_, x] => x | _ => .non) = (wsel (p 0) (p 1) (p 2) (p 3) (p 4)).map .str := by
  have e : enumF 0 (wordl.map .str) = [.tup [.int 0, .str [122, 101, 114, 111]], .tup [.int 1, .str [111, 110, 101]], .tup [.int 2, .str [116, 119, 111]], .tup [.int 3, .str [102, 101, 119]], .tup [.int 4, .str [109, 97, 110, 121]]] := rfl
  rw [e]
  unfold wsel
  cases h0 : p 0 <;> cases h1 : p 1 <;> cases h2 : p 2 <;> cases h3 : p 3 <;> cases h4 : p 4 <;> simp [List.filter, h0, h1, h2, h3, h4]
theorem kind_okK : ∀ a ∈ kindl, ∀ b ∈ kindl, ∀ c ∈ kindl, (cut (sortS (ddS [a, b, c])) none (some 2)).Pairwise (fun a b => ltS a b = true) ∧ (∀ s ∈ cut (sortS (ddS [a, b, c])) none (some 2), s ∈ kindl) ∧ (cut (sortS (ddS [a, b, c])) none (some 2)).length ≤ 2 := by decide
theorem cut_map {α β : Type} (f : α → β) (xs : List α) (lo hi : Option Int) : cut (xs.map f) lo hi = (cut xs lo hi).map f := by
  unfold cut
  rw [List.length_map, List.map_take, List.map_drop]
/-- the keys of a count -/
theorem keys_cnt (k W : Nat) (c : Int) {r1 r2 r3 r4 r5 r6 r7 r8 r9 : Option D} : ∃ ks : List D, cntK ks ∧
    exs (run TF W (k + 1)) W [] [(.asg 4 (.u1 .sset (.lc [7] (.one 7) (.rng1 (.call 2 [(.var 0), (.cst (.int 9901)), (.cst (.int 3))])) [] (.call 2 [(.bin .add (.var 0) (.bin .mul (.cst (.int 3)) (.var 7))), (.cst (.int 9907)), (.cst (.int 6))])))), (.asg 6 (.tup [(.cst (.str [122, 101, 114, 111])), (.cst (.str [111, 110, 101])), (.cst (.str [116, 119, 111])), (.cst (.str [102, 101, 119])), (.cst (.str [109, 97, 110, 121]))])), (.asg 4 (.bin .add (.var 4) (.lc [7, 9] (.tup [7, 9]) (.enm (.var 6)) [(.cmp .eq (.call 2 [(.bin .add (.var 0) (.var 7)), (.cst (.int 9887)), (.cst (.int 3))]) (.cst (.int 0)))] (.var 9))))] [some (.int c), r1, r2, r3, r4, r5, r6, r7, r8, r9] = .ok (.nx [some (.int c), r1, r2, r3, some (.lst ks), r5, some (.tup (wordl.map .str)), r7, r8, r9]) := by
  have b0 := mixZ_nn c 9901 3 (by omega)
  have b1 := mixZ_lt c 9901 3 (by omega)
  have e0 := mix_spec k W c 9901 3 (by omega) (by omega) (by omega)
  generalize mixZ c 9901 3 = m at b0 b1 e0
  have s3 : small (3 : Int) = true := by decide
  let g : Nat → Int := fun j => mixZ (c + 3 * (j : Int)) 9907 6
  have e1 : ev (run TF W (k + 1)) (.lc [7] (.one 7) (.rng1 (.call 2 [(.var 0), (.cst (.int 9901)), (.cst (.int 3))])) [] (.call 2 [(.bin .add (.var 0) (.bin .mul (.cst (.int 3)) (.var 7))), (.cst (.int 9907)), (.cst (.int 6))])) [some (.int c), r1, r2, r3, r4, r5, r6, r7, r8, r9] = .ok (.lst (((List.range m.toNat).map g).map .int)) := by
    rw [ev_lcS]
    simp only [its_rng1, ev_call, evs_cons, evs_nil, ev_var, ev_cst, List.getD_cons_zero, List.getD_cons_succ, ofO_some, ok_bind, e0, rngA b0 (by omega)]
    rw [mapF_of (ψ := fun j => D.int (g j)) (fun j _ => by
      have e3 := mix_spec k W (c + 3 * (j : Int)) 9907 6 (by omega) (by omega) (by omega)
      simp [elF, s3, e3, g])]
    simp [List.map_map, Function.comp_def]
  have hns : ((List.range m.toNat).map g).length ≤ 2 := by simp; omega
  have hng : ∀ x ∈ (List.range m.toNat).map g, 0 ≤ x ∧ x < 6 := fun x hx => by
    obtain ⟨j, _, rfl⟩ := List.mem_map.mp hx
    exact ⟨mixZ_nn (c + 3 * (j : Int)) 9907 6 (by omega), mixZ_lt (c + 3 * (j : Int)) 9907 6 (by omega)⟩
  generalize ((List.range m.toNat).map g) = ns at *
  have e2 := sset_ints (ns := ns) (by omega)
  have hr := pw_sortI2 hns
  have hI : ∀ i ∈ sortI (ddS ns), 0 ≤ i ∧ i < 6 := fun i hi => hng i ((ddS_mem ns i).mp ((sortI_permW _).mem_iff.mp hi))
  have hIl : (sortI (ddS ns)).length ≤ 2 := by
    rw [(sortI_permW _).length_eq]
    have := ddS_len ns
    omega
  generalize sortI (ddS ns) = Is at *
  have e4 : ∀ r4, ev (run TF W (k + 1)) (.lc [7, 9] (.tup [7, 9]) (.enm (.var 6)) [(.cmp .eq (.call 2 [(.bin .add (.var 0) (.var 7)), (.cst (.int 9887)), (.cst (.int 3))]) (.cst (.int 0)))] (.var 9)) [some (.int c), r1, r2, r3, r4, r5, some (.tup (wordl.map .str)), r7, r8, r9] = .ok (.lst (((enumF 0 (wordl.map .str)).filter fun d => match d with | .tup [.int i, _] => mixZ (c + i) 9887 3 == 0 | _ => false).map fun d => match d with | .tup [_, x] => x | _ => .non)) := by
    intro r4
    rw [ev_lcS]
    simp only [its_enm, ev_var, List.getD_cons_zero, List.getD_cons_succ, ofO_some, ok_bind, enm_tup]
    rw [mapF_filter (p := fun d => match d with | .tup [.int i, _] => mixZ (c + i) 9887 3 == 0 | _ => false) (g := fun d => match d with | .tup [_, x] => x | _ => .non) (fun d hd => by
      obtain ⟨j, x, rfl, _, _⟩ := enum_mem hd
      have e5 := mix_spec k W (c + (j : Int)) 9887 3 (by omega) (by omega) (by omega)
      simp [elF, e5])]
    rfl
  rw [wsel_eq fun i => mixZ (c + i) 9887 3 == 0] at e4
  have hw := List.isSublist_iff_sublist.mp (wsel_sub (mixZ (c + 0) 9887 3 == 0) (mixZ (c + 1) 9887 3 == 0) (mixZ (c + 2) 9887 3 == 0) (mixZ (c + 3) 9887 3 == 0) (mixZ (c + 4) 9887 3 == 0))
  generalize wsel (mixZ (c + 0) 9887 3 == 0) (mixZ (c + 1) 9887 3 == 0) (mixZ (c + 2) 9887 3 == 0) (mixZ (c + 3) 9887 3 == 0) (mixZ (c + 4) 9887 3 == 0) = Ws at *
  refine ⟨Is.map .int ++ Ws.map .str, ⟨Is, Ws, rfl, hr, hI, hw, hIl⟩, ?_⟩
  have hwl := hw.length_le
  have hw5 : wordl.length = 5 := rfl
  simp only [wordl, List.map_cons, List.map_nil] at e4 ⊢
  simp [-ev_lcS, e1, e2, e4, limL (show Is.length + Ws.length ≤ 10000 by omega)]
theorem keys_knd (k W : Nat) (c : Int) {r1 r2 r3 r4 r5 r6 r7 r8 r9 : Option D} : ∃ ks : List D, kndK ks ∧
    exs (run TF W (k + 1)) W [] [(.asg 4 (.sli (.u1 .sset (.lc [7] (.one 7) (.rng1 (.cst (.int 3))) [] (.idx (.tup [(.cst (.str [102])), (.cst (.str [109])), (.cst (.str [115, 104, 101])), (.cst (.str [116, 104, 101, 121]))]) (.call 2 [(.bin .add (.var 0) (.bin .mul (.cst (.int 3)) (.var 7))), (.cst (.int 9883)), (.cst (.int 4))])))) (.cst .non) (.cst (.int 2))))] [some (.int c), r1, r2, r3, r4, r5, r6, r7, r8, r9] = .ok (.nx [some (.int c), r1, r2, r3, some (.lst ks), r5, r6, r7, r8, r9]) := by
  have s3 : small (3 : Int) = true := by decide
  let g : Nat → List Nat := fun j => kindl.getD (mixZ (c + 3 * (j : Int)) 9883 4).toNat []
  have hg : ∀ j, g j ∈ kindl ∧ atO (kindl.map D.str) (mixZ (c + 3 * (j : Int)) 9883 4) = some (.str (g j)) := fun j => by
    have d0 := mixZ_nn (c + 3 * (j : Int)) 9883 4 (by omega)
    have d1 := mixZ_lt (c + 3 * (j : Int)) 9883 4 (by omega)
    refine ⟨getD_mem [] (show _ < 4 by omega), ?_⟩
    rw [at_map, at_in (l := kindl) [] d0 d1]; rfl
  have e1 : ev (run TF W (k + 1)) (.lc [7] (.one 7) (.rng1 (.cst (.int 3))) [] (.idx (.tup [(.cst (.str [102])), (.cst (.str [109])), (.cst (.str [115, 104, 101])), (.cst (.str [116, 104, 101, 121]))]) (.call 2 [(.bin .add (.var 0) (.bin .mul (.cst (.int 3)) (.var 7))), (.cst (.int 9883)), (.cst (.int 4))]))) [some (.int c), r1, r2, r3, r4, r5, r6, r7, r8, r9] = .ok (.lst (((List.range 3).map g).map .str)) := by
    rw [ev_lcS, its_rngN (n := 3) rfl (by omega), okb]
    rw [mapF_of (ψ := fun j => D.str (g j)) (fun j _ => by
      have e3 := mix_spec k W (c + 3 * (j : Int)) 9883 4 (by omega) (by omega) (by omega)
      have e4 := (hg j).2
      simp only [kindl, List.map_cons, List.map_nil] at e4
      simp [elF, s3, e3, e4])]
    simp [List.map_map, Function.comp_def]
  have hk : ∀ s ∈ (List.range 3).map g, s ∈ kindl := fun s hs => by
    obtain ⟨j, _, rfl⟩ := List.mem_map.mp hs
    exact (hg j).1
  have hl : ((List.range 3).map g).length = 3 := by simp
  generalize (List.range 3).map g = ss at *
  have e2 := sset_strs (ss := ss) (fun z => by rw [z] at hl; simp at hl) (by omega)
  have hkb : kndK ((cut (sortS (ddS ss)) none (some 2)).map .str) := by
    match ss, hl, hk with
    | [a, b, c], _, hk => exact ⟨_, rfl, kind_okK a (hk a (by simp)) b (hk b (by simp)) c (hk c (by simp))⟩
  refine ⟨_, hkb, ?_⟩
  simp [-ev_lcS, e1, e2, cut_map]
theorem exs_seq {F : Nat → List D → R D} {W : Nat} {M : List Nat} {s : Sm} {r : List Sm} {ρ ρ' : Rho} (h : ex F W M s ρ = .ok (.nx ρ')) : exs F W M (s :: r) ρ = exs F W M r ρ' := by rw [exs_cons, h, okb, thenF_nx]
theorem exs_one {F : Nat → List D → R D} {W : Nat} {M : List Nat} {s : Sm} {ρ : Rho} : exs F W M [s] ρ = ex F W M s ρ := by
  rw [exs_cons]
  cases h : ex F W M s ρ with
  | ok f => rw [okb]; cases f <;> rfl
  | exc x => rfl
  | no => rfl
theorem enum_cases {f : D → R (Option D)} {M : List D → Prop} : ∀ {L : List D} {n : Nat}, (∀ (j : Nat) (x : D), x ∈ L → ∃ ms, f (.tup [.int j, x]) = .ok (some (.tup [x, .tup ms])) ∧ M ms) → ∃ kms, mapF f (enumF n L) = .ok (csD kms) ∧ kms.map (·.1) = L ∧ ∀ x ∈ kms, M x.2
  | [], _, _ => ⟨[], rfl, rfl, fun _ h => nomatch h⟩
  | x :: L, n, h => by
    obtain ⟨ms, e, hm⟩ := h n x List.mem_cons_self
    obtain ⟨kms, e2, h2, h3⟩ := enum_cases (L := L) (n := n + 1) fun j y hy => h j y (List.mem_cons_of_mem _ hy)
    refine ⟨(x, ms) :: kms, ?_, by simp [h2], fun y hy => ?_⟩
    · simp only [enumF, mapF, e, nox_ok, ok_bind, e2]; rfl
    · rcases List.mem_cons.mp hy with z | z
      · rw [z]; exact hm
      · exact h3 y z
theorem cases_specK (k W : Nat) {M : Bool → List D → Prop} {d : Int} (hM : ∀ (c' : Int) (b' : Bool), ∃ ms, run TF W (k + 1) 30 [.int c', .int (d - 1), .bl b'] = .ok (.tup ms) ∧ M b' ms) (c : Int) {w : List Nat} (hw : w = CNT ∨ w = KND) (b : Bool) :
    ∃ kms ks, run TF W (k + 2) 29 [.int c, .str w, .int d, .bl b] = .ok (.tup (csD kms)) ∧ kms.map (·.1) = ks ++ [.str OTH] ∧ keysK w ks ∧ ∀ x ∈ kms, M (b || decide (w = CNT)) x.2 := by
  rw [run_eq (fn := f_law_cases) rfl rfl]
  have s17 : small (17 : Int) = true := by decide
  have main : ∀ (ks : List D) (r5 : Bool) (r6 : Option D), ks.length ≤ 7 → ∃ kms, ev (run TF W (k + 1)) (.lc [7, 8] (.tup [7, 8]) (.enm (.bin .add (.var 4) (.lst [(.cst (.str [111, 116, 104, 101, 114]))]))) [] (.tup [(.var 8), (.call 30 [(.bin .add (.bin .add (.var 0) (.bin .mul (.cst (.int 17)) (.var 7))) (.cst (.int 5))), (.bin .sub (.var 2) (.cst (.int 1))), (.var 5)])])) [some (.int c), some (.str w), some (.int d), some (.bl b), some (.lst ks), some (.bl r5), r6, none, none, none] = .ok (.lst (csD kms)) ∧ kms.map (·.1) = ks ++ [.str OTH] ∧ ∀ x ∈ kms, M r5 x.2 := by
    intro ks r5 r6 hl
    obtain ⟨kms, e, l, q⟩ := enum_cases (f := elF (run TF W (k + 1)) [7, 8] (.tup [7, 8]) [] (.tup [(.var 8), (.call 30 [(.bin .add (.bin .add (.var 0) (.bin .mul (.cst (.int 17)) (.var 7))) (.cst (.int 5))), (.bin .sub (.var 2) (.cst (.int 1))), (.var 5)])]) [some (.int c), some (.str w), some (.int d), some (.bl b), some (.lst ks), some (.bl r5), r6, none, none, none]) (M := M r5) (L := ks ++ [.str OTH]) (n := 0) (fun j y hy => by
      obtain ⟨ms, e, hm⟩ := hM (c + 17 * (j : Int) + 5) r5
      refine ⟨ms, ?_, hm⟩
      simp [elF, s17, e])
    refine ⟨kms, ?_, l, q⟩
    rw [ev_lcS]
    simp only [OTH] at e
    have ll : ks.length + 1 ≤ LIM := limL (by omega)
    simp [e, ll]
  rcases hw with rfl | rfl
  · obtain ⟨ks, hkb, e⟩ := keys_cnt k W c (r1 := some (.str CNT)) (r2 := some (.int d)) (r3 := some (.bl b)) (r4 := some (.lst [])) (r5 := none) (r6 := none) (r7 := none) (r8 := none) (r9 := none)
    have hK : keysK CNT ks := .inl ⟨rfl, hkb⟩
    obtain ⟨kms, e2, h1, h3⟩ := main ks true (some (.tup (wordl.map .str))) (keysK_len hK)
    refine ⟨kms, ks, ?_, h1, hK, by simpa using h3⟩
    show (exs (run TF W (k + 1)) W [] _ [some (.int c), some (.str CNT), some (.int d), some (.bl b), none, none, none, none, none, none] >>= endF) = _
    rw [show f_law_cases.body = [_, _, _, _] from rfl]
    rw [exs_seq (ρ' := [some (.int c), some (.str CNT), some (.int d), some (.bl b), some (.lst []), none, none, none, none, none]) (by simp)]
    rw [exs_seq (ρ' := [some (.int c), some (.str CNT), some (.int d), some (.bl b), some (.lst ks), none, some (.tup (wordl.map .str)), none, none, none]) (by
      rw [ex_ite, tst_cmp]
      simp only [ev_var, ev_cst, List.getD_cons_zero, List.getD_cons_succ, ofO_some, ok_bind, eq_str, CNT, decide_true, if_true]
      exact e)]
    rw [exs_seq (ρ' := [some (.int c), some (.str CNT), some (.int d), some (.bl b), some (.lst ks), some (.bl true), some (.tup (wordl.map .str)), none, none, none]) (by cases b <;> simp [CNT])]
    simp [-ev_lcS, e2]
  · obtain ⟨ks, hkb, e⟩ := keys_knd k W c (r1 := some (.str KND)) (r2 := some (.int d)) (r3 := some (.bl b)) (r4 := some (.lst [])) (r5 := none) (r6 := none) (r7 := none) (r8 := none) (r9 := none)
    have hK : keysK KND ks := .inr ⟨rfl, hkb⟩
    obtain ⟨kms, e2, h1, h3⟩ := main ks b none (keysK_len hK)
    refine ⟨kms, ks, ?_, h1, hK, ?_⟩
    · show (exs (run TF W (k + 1)) W [] _ [some (.int c), some (.str KND), some (.int d), some (.bl b), none, none, none, none, none, none] >>= endF) = _
      rw [show f_law_cases.body = [_, _, _, _] from rfl]
      rw [exs_seq (ρ' := [some (.int c), some (.str KND), some (.int d), some (.bl b), some (.lst []), none, none, none, none, none]) (by simp)]
      rw [exs_seq (ρ' := [some (.int c), some (.str KND), some (.int d), some (.bl b), some (.lst ks), none, none, none, none, none]) (by
        rw [ex_ite, tst_cmp]
        simp only [ev_var, ev_cst, List.getD_cons_zero, List.getD_cons_succ, ofO_some, ok_bind, eq_str, KND]
        exact e)]
      rw [exs_seq (ρ' := [some (.int c), some (.str KND), some (.int d), some (.bl b), some (.lst ks), some (.bl b), none, none, none, none]) (by cases b <;> simp [KND])]
      simp [-ev_lcS, e2]
    · have : decide (KND = CNT) = false := by decide
      rw [this, Bool.or_false]; exact h3
theorem at_last (xs : List D) (p : D) : atO (xs ++ [p]) (-1) = some p := by
  unfold atO ixO
  rw [if_neg (by omega)]
  simp only [List.length_append, List.length_cons, List.length_nil]
  rw [if_pos (by omega)]
  have : (-1 + ((xs.length : Int) + 1)).toNat = xs.length := by omega
  simp [this]
theorem adj_app : ∀ (xs : List D) (p : D), adjB (xs ++ [p]) = (adjB xs || ((xs.getLast?.map txB).getD false && txB p))
  | [], p => by simp [adjB]
  | [a], p => by simp [adjB]
  | a :: b :: r, p => by
    have := adj_app (b :: r) p
    simp only [List.cons_append] at this ⊢
    rw [adjB, this, adjB, Bool.or_assoc]
    simp [List.getLast?_cons_cons]
theorem msg_bodyK (k W : Nat) (M : Bool → List D → Prop) (n : Nat) (hM : n ≠ 0 → ∀ (c' : Int) (b' : Bool), ∃ ms, run TF W (k + 1) 30 [.int c', .int ((n : Int) - 1), .bl b'] = .ok (.tup ms) ∧ M b' ms) {c : Int} {b : Bool} {xs : List D} (hx : ∀ p ∈ xs, DmP M b p) (ha : adjB xs = false) (hl : xs.length ≤ 2) {j : Int} {r4 r5 r6 r7 : Option D} :
    ∃ p r5' r6' r7', DmP M b p ∧ adjB (xs ++ [p]) = false ∧ exs (run TF W (k + 2)) W [3] f_law_message_b1 [some (.int c), some (.int n), some (.bl b), some (.lst xs), some (.int j), r5, r6, r7] = .ok (.nx [some (.int c), some (.int n), some (.bl b), some (.lst (xs ++ [p])), some (.int j), r5', r6', r7']) := by
  have s19 : small (19 : Int) = true := by decide
  generalize hs : c + 19 * j = s
  have b0 := mixZ_nn s 9859 7 (by omega)
  have b1 := mixZ_lt s 9859 7 (by omega)
  have e0 := mix_spec (k + 1) W s 9859 7 (by omega) (by omega) (by omega)
  generalize mixZ s 9859 7 = way at b0 b1 e0
  obtain ⟨tx, et, htx, htl, htc⟩ := text_spec k W s
  obtain ⟨nm, hnm, en⟩ := name_spec k W s
  have ll : xs.length < LIM := limS (by omega)
  -- the first test
  have hT : ∃ v : Bool, (v = true → (xs.getLast?.map txB).getD false = false) ∧ (way < 2 → tst (run TF W (k + 2)) (.or [(.not (.var 3)), (.cmp .ne (.idx (.idx (.var 3) (.neg (.cst (.int 1)))) (.cst (.int 0))) (.cst (.str [116, 101, 120, 116])))]) [some (.int c), some (.int n), some (.bl b), some (.lst xs), some (.int j), some (.int s), some (.int way), r7] = .ok v) := by
    rcases List.eq_nil_or_concat xs with rfl | ⟨ys, p, rfl⟩
    · exact ⟨true, fun _ => rfl, fun _ => by simp⟩
    · obtain ⟨w, r, rfl⟩ := dm_head (hx p (by simp))
      refine ⟨!decide (w = [116, 101, 120, 116]), fun hv => ?_, fun _ => ?_⟩
      · simp at hv; simp [txB, TXT, hv]
      · simp [at_last, eat0]
  obtain ⟨v, hvt, hv⟩ := hT
  have st1 : ∀ r, exs (run TF W (k + 2)) W [3] ((.asg 5 (.bin .add (.var 0) (.bin .mul (.cst (.int 19)) (.var 4)))) :: (.asg 6 (.call 2 [(.var 5), (.cst (.int 9859)), (.cst (.int 7))])) :: r) [some (.int c), some (.int n), some (.bl b), some (.lst xs), some (.int j), r5, r6, r7] = exs (run TF W (k + 2)) W [3] r [some (.int c), some (.int n), some (.bl b), some (.lst xs), some (.int j), some (.int s), some (.int way), r7] := by
    intro r
    rw [exs_seq (ρ' := [some (.int c), some (.int n), some (.bl b), some (.lst xs), some (.int j), some (.int s), r6, r7]) (by simp [s19, hs])]
    rw [exs_seq (ρ' := [some (.int c), some (.int n), some (.bl b), some (.lst xs), some (.int j), some (.int s), some (.int way), r7]) (by simp [e0])]
  unfold f_law_message_b1
  rw [st1]
  have hno : ∀ {w : List Nat} {r : List D}, w ≠ TXT → adjB (xs ++ [.tup (.str w :: r)]) = false := fun {w r} h => by
    rw [adj_app, ha]; simp [txB, h]
  by_cases c1 : way < 2 ∧ v = true
  · refine ⟨.tup [.str TXT, .str tx], some (.int s), some (.int way), r7, .inl ⟨tx, rfl, htx, htl, htc⟩, ?_, ?_⟩
    · rw [adj_app, ha, hvt c1.2]; rfl
    · have := hv c1.1
      rw [exs_seq (ρ' := [some (.int c), some (.int n), some (.bl b), some (.lst (xs ++ [.tup [.str TXT, .str tx]])), some (.int j), some (.int s), some (.int way), r7]) (by
        rw [ex_ite, tst_and, tAnd_cons, tAnd_one, this]
        simp [c1.1, c1.2, et, ll, TXT])]
      rfl
  · have h1 : tst (run TF W (k + 2)) (.and [(.cmp .lt (.var 6) (.cst (.int 2))), (.or [(.not (.var 3)), (.cmp .ne (.idx (.idx (.var 3) (.neg (.cst (.int 1)))) (.cst (.int 0))) (.cst (.str [116, 101, 120, 116])))])]) [some (.int c), some (.int n), some (.bl b), some (.lst xs), some (.int j), some (.int s), some (.int way), r7] = .ok false := by
      rw [tst_and, tAnd_cons, tAnd_one]
      by_cases hw : way < 2
      · rw [hv hw]
        have : v = false := by
          cases v with
          | false => rfl
          | true => exact absurd ⟨hw, rfl⟩ c1
        simp [hw, this]
      · simp [hw]
    by_cases c2 : way = 2 ∧ b = true
    · refine ⟨.tup [.str MRK], some (.int s), some (.int way), r7, .inr (.inl ⟨rfl, c2.2⟩), hno (by decide), ?_⟩
      rw [exs_seq (ρ' := [some (.int c), some (.int n), some (.bl b), some (.lst (xs ++ [.tup [.str MRK]])), some (.int j), some (.int s), some (.int way), r7]) (by
        rw [ex_ite, h1, okb, if_neg (by simp)]
        simp [c2.1, c2.2, ll, MRK])]
      rfl
    · have h2 : tst (run TF W (k + 2)) (.and [(.cmp .eq (.var 6) (.cst (.int 2))), (.var 2)]) [some (.int c), some (.int n), some (.bl b), some (.lst xs), some (.int j), some (.int s), some (.int way), r7] = .ok false := by
        by_cases hw : way = 2
        · have : b = false := by
            cases b with
            | false => rfl
            | true => exact absurd ⟨hw, rfl⟩ c2
          simp [hw, this]
        · simp [hw]
      by_cases c3 : way < 5 ∨ n = 0
      · refine ⟨.tup [.str SLT, .str nm], some (.int s), some (.int way), r7, .inr (.inr (.inl ⟨nm, rfl, hnm⟩)), hno (by decide), ?_⟩
        have h3 : tst (run TF W (k + 2)) (.or [(.cmp .lt (.var 6) (.cst (.int 5))), (.cmp .eq (.var 1) (.cst (.int 0)))]) [some (.int c), some (.int n), some (.bl b), some (.lst xs), some (.int j), some (.int s), some (.int way), r7] = .ok true := by
          by_cases hw : way < 5
          · simp [hw]
          · have : n = 0 := c3.resolve_left hw
            simp [hw, this]
        rw [exs_seq (ρ' := [some (.int c), some (.int n), some (.bl b), some (.lst (xs ++ [.tup [.str SLT, .str nm]])), some (.int j), some (.int s), some (.int way), r7]) (by
          rw [ex_ite, h1, okb, if_neg (by simp), exs_one, ex_ite, h2, okb, if_neg (by simp), exs_one, ex_ite, h3, okb, if_pos rfl]
          simp [en, ll, SLT])]
        rfl
      · have hw5 : ¬ way < 5 := fun z => c3 (.inl z)
        have hn0 : n ≠ 0 := fun z => c3 (.inr z)
        have h3 : tst (run TF W (k + 2)) (.or [(.cmp .lt (.var 6) (.cst (.int 5))), (.cmp .eq (.var 1) (.cst (.int 0)))]) [some (.int c), some (.int n), some (.bl b), some (.lst xs), some (.int j), some (.int s), some (.int way), r7] = .ok false := by
          simp [hw5, hn0]
        obtain ⟨w, hw, ew⟩ : ∃ w, (w = CNT ∨ w = KND) ∧ atO [D.str CNT, D.str KND] (way - 5) = some (.str w) := by
          have : way = 5 ∨ way = 6 := by omega
          rcases this with rfl | rfl
          · exact ⟨CNT, .inl rfl, rfl⟩
          · exact ⟨KND, .inr rfl, rfl⟩
        obtain ⟨kms, ks, ec, q1, q2, q3⟩ := cases_specK k W (M := M) (hM hn0) (s + 1) hw b
        unfold CNT KND at ew
        refine ⟨.tup [.str w, .str nm, .tup (csD kms)], some (.int s), some (.int way), some (.str w), .inr (.inr (.inr ⟨w, nm, kms, ks, rfl, hnm, q1, q2, q3⟩)), hno (by rcases hw with rfl | rfl <;> decide), ?_⟩
        rw [exs_seq (ρ' := [some (.int c), some (.int n), some (.bl b), some (.lst (xs ++ [.tup [.str w, .str nm, .tup (csD kms)]])), some (.int j), some (.int s), some (.int way), some (.str w)]) (by
          rw [ex_ite, h1, okb, if_neg (by simp), exs_one, ex_ite, h2, okb, if_neg (by simp), exs_one, ex_ite, h3, okb, if_neg (by simp)]
          simp [en, ll, ew, ec])]
        rfl
theorem message_stepK (k W n : Nat) (M : Bool → List D → Prop) (hM : n ≠ 0 → ∀ (c' : Int) (b' : Bool), ∃ ms, run TF W (k + 1) 30 [.int c', .int ((n : Int) - 1), .bl b'] = .ok (.tup ms) ∧ M b' ms) (c : Int) (b : Bool) :
    ∃ ps, run TF W (k + 3) 30 [.int c, .int (n : Int), .bl b] = .ok (.tup ps) ∧ ps.length ≤ 3 ∧ adjB ps = false ∧ ∀ p ∈ ps, DmP M b p := by
  rw [run_eq (fn := f_law_message) rfl rfl]
  have b0 := mixZ_nn c 9871 4 (by omega)
  have b1 := mixZ_lt c 9871 4 (by omega)
  have e0 := mix_spec (k + 1) W c 9871 4 (by omega) (by omega) (by omega)
  generalize mixZ c 9871 4 = m0 at b0 b1 e0
  obtain ⟨ρ', e, ps, r4, r5, r6, r7, hp, ha, hl, hρ⟩ := forF_acc (φ := fun j : Nat => D.int (j : Int)) (bd := exs (run TF W (k + 2)) W [3] f_law_message_b1) (tg := .one 4) (l0 := List.range m0.toNat) (I := fun done ρ => ∃ ps r4 r5 r6 r7, (∀ p ∈ ps, DmP M b p) ∧ adjB ps = false ∧ ps.length = done.length ∧ ρ = [some (.int c), some (.int n), some (.bl b), some (.lst ps), r4, r5, r6, r7]) (fun done j rest ρ hd ⟨ps, r4, r5, r6, r7, hp, ha, hl, e⟩ => by
    subst e
    have hdl : done.length ≤ 2 := by
      have := congrArg List.length hd
      simp at this
      omega
    obtain ⟨p, r5', r6', r7', q, ha', e⟩ := msg_bodyK k W M n hM (c := c) (b := b) hp ha (by omega) (j := (j : Int)) (r4 := r4) (r5 := r5) (r6 := r6) (r7 := r7)
    refine ⟨_, ?_, ps ++ [p], some (.int j), r5', r6', r7', ?_, ha', by simp [hl], rfl⟩
    · simp [e]
    · intro x hx
      rcases List.mem_append.mp hx with z | z
      · exact hp x z
      · simp at z; rw [z]; exact q) (l := List.range m0.toNat) (done := []) (ρ := [some (.int c), some (.int n), some (.bl b), some (.lst []), none, none, none, none]) rfl ⟨[], none, none, none, none, (fun p h => nomatch h), rfl, rfl, rfl⟩
  subst hρ
  refine ⟨ps, ?_, by rw [hl]; simp; omega, ha, hp⟩
  simp [f_law_message, e0, -rng_int, rngA b0 (by omega), e]
theorem message_specK (W : Nat) : ∀ (n k : Nat) (c : Int) (b : Bool), ∃ ps, run TF W (k + 2 * n + 3) 30 [.int c, .int (n : Int), .bl b] = .ok (.tup ps) ∧ Dm (n + 1) b ps := by
  intro n
  induction n with
  | zero =>
    intro k c b
    obtain ⟨ps, e, hl, ha, hp⟩ := message_stepK k W 0 (Dm 0) (fun z => absurd rfl z) c b
    exact ⟨ps, e, hl, ha, hp⟩
  | succ n ih =>
    intro k c b
    obtain ⟨ps, e, hl, ha, hp⟩ := message_stepK (k + 2 * (n + 1)) W (n + 1) (Dm (n + 1)) (fun _ c' b' => by
      obtain ⟨ms, e, h⟩ := ih k c' b'
      refine ⟨ms, ?_, h⟩
      rw [show k + 2 * (n + 1) + 1 = k + 2 * n + 3 by omega, show ((n + 1 : Nat) : Int) - 1 = (n : Int) by omega]
      exact e) c b
    exact ⟨ps, e, hl, ha, hp⟩
abbrev Bk := List (List Nat × List D)
def bkP (p : List Nat × List D) : D := .tup [.str p.1, .tup p.2]
def lkB : Bk → List Nat → Option (List D)
  | [], _ => none
  | p :: r, t => if p.1 = t then some p.2 else lkB r t
def bkK (B : Bk) : List Ky := B.map fun p => Ky.s p.1
def bkV (B : Bk) : List D := B.map fun p => D.tup p.2
theorem dictO_bk : ∀ B : Bk, dictO (B.map bkP) = some (B.map fun p => (Ky.s p.1, D.tup p.2))
  | [] => rfl
  | p :: r => by simp [dictO, bkP, D.ky, dictO_bk r]
theorem dict_bk {B : Bk} (h : (B.map (·.1)).Nodup) : bltD .dict (.tup (B.map bkP)) = .ok (.dk (bkK B) (bkV B)) := by
  have hn : ((B.map fun p => (Ky.s p.1, D.tup p.2)).map (·.1)).Nodup := by
    rw [List.map_map]
    have e : ((fun x : Ky × D => x.1) ∘ fun p : List Nat × List D => (Ky.s p.1, D.tup p.2)) = Ky.s ∘ fun p => p.1 := rfl
    rw [e, ← List.map_map]
    refine List.Pairwise.map _ (fun a b hab z => hab ?_) h
    cases z; rfl
  rw [dict_tup, dictO_bk]
  simp only [ofO_some, ok_bind]
  rw [mkD_new _ [] [] (by simpa using hn) rfl]
  simp [List.map_map, Function.comp_def, bkK, bkV]
theorem look_bk (t : List Nat) : ∀ B : Bk, look (Ky.s t) (bkK B) (bkV B) = (lkB B t).map .tup
  | [] => rfl
  | p :: r => by
    have ih := look_bk t r
    unfold bkK bkV at ih ⊢
    simp only [List.map_cons, look, lkB, ih, Ky.s.injEq]
    by_cases h : p.1 = t
    · simp [h]
    · simp [h]
theorem lkB_mem {t : List Nat} : ∀ {B : Bk}, t ∈ B.map (·.1) → ∃ g, lkB B t = some g ∧ (t, g) ∈ B
  | p :: r, h => by
    by_cases hp : p.1 = t
    · exact ⟨p.2, by simp [lkB, hp], by rw [← hp]; exact List.mem_cons_self⟩
    · have h' : t ∈ r.map (·.1) := by
        rcases List.mem_cons.mp h with z | z
        · exact (hp z.symm).elim
        · exact z
      obtain ⟨g, e, hg⟩ := lkB_mem h'
      exact ⟨g, by simp [lkB, hp, e], List.mem_cons_of_mem _ hg⟩
theorem keyD_bk (B : Bk) : strsO ((bkK B).map kyD) = some (B.map (·.1)) := by
  unfold bkK
  rw [List.map_map]
  exact strsO_map (fun p : List Nat × List D => p.1) B
/-! what numbers have -/
def words6 : List (List Nat) := [[122, 101, 114, 111], [111, 110, 101], [116, 119, 111], [102, 101, 119], [109, 97, 110, 121], [111, 116, 104, 101, 114]]
def seenR (R : List Rule) (n : Nat) : List (List Nat) := (List.range n).map fun (k : Nat) => catT R (k : Int)
def canT (R : List Rule) : List (List Nat) := words6.filter fun w => decide (w ∈ seenR R 1200)
theorem lc_seen {F : Nat → List D → R D} {e : E} {ρ : Rho} {own : List Nat} {s f : Nat} {i : Nat} {R : List Rule} {n : Nat} (hn : n ≤ 10000) (h : ∀ k : Nat, elF F own (.one s) [] (.call f [(.var i), (.var s)]) ρ (.int (k : Int)) = .ok (some (.str (catT R (k : Int))))) (he : its F (.rng1 e) ρ = .ok ((List.range n).map fun k => D.int ((k : Nat) : Int))) :
    ev F (.lc own (.one s) (.rng1 e) [] (.call f [(.var i), (.var s)])) ρ = .ok (.lst ((seenR R n).map .str)) := by
  rw [ev_lcS, he, ok_bind, mapF_of (ψ := fun k : Nat => .str (catT R (k : Int))) fun k _ => h k]
  simp only [ok_bind, seenR, List.map_map, Function.comp_def]
theorem holds_per {t : Test} (h : TestOk t) {n : Int} (hn : 1000 ≤ n) : holdsT (n + 100) t = holdsT n t := by
  have a1 : absI n = n := by unfold absI; rw [if_neg (by omega)]
  have a2 : absI (n + 100) = n + 100 := by unfold absI; rw [if_neg (by omega)]
  have hr := h.r
  have hh := h.h
  have hl := h.l
  unfold holdsT remT
  rw [a1, a2]
  rcases hr with hr | hr | hr | hr | hr
  · rw [hr]
    simp only [Int.lt_irrefl, if_false]
    rw [decide_eq_true (show t.low ≤ n + 100 by have := h.lh; omega), decide_eq_true (show t.low ≤ n by have := h.lh; omega), decide_eq_false (show ¬ n + 100 ≤ t.high by omega), decide_eq_false (show ¬ n ≤ t.high by omega)]
  all_goals
    rw [hr]
    simp only [show (0 : Int) < 2 by omega, show (0 : Int) < 5 by omega, show (0 : Int) < 10 by omega, show (0 : Int) < 100 by omega, if_true]
    congr 2
    all_goals congr 2
    all_goals omega
theorem cat_per {R : List Rule} (hR : ∀ r ∈ R, ∀ c ∈ r.2, ∀ t ∈ c, TestOk t) {n : Int} (hn : 1000 ≤ n) : catT R (n + 100) = catT R n := by
  unfold catT
  congr 1
  induction R with
  | nil => rfl
  | cons r q ih =>
    have h1 : ruleT (n + 100) r = ruleT n r := by
      unfold ruleT
      have hc := hR r List.mem_cons_self
      generalize r.2 = cs at hc
      induction cs with
      | nil => rfl
      | cons c cs ihc =>
        rw [List.any_cons, List.any_cons, ihc fun c' hc' => hc c' (List.mem_cons_of_mem _ hc')]
        congr 1
        have ht := hc c List.mem_cons_self
        clear hc ihc
        induction c with
        | nil => rfl
        | cons t c iht =>
          rw [List.all_cons, List.all_cons, iht fun t' h' => ht t' (List.mem_cons_of_mem _ h'), holds_per (ht t List.mem_cons_self) hn]
    simp only [List.findSome?_cons, h1, ih fun r' h' => hR r' (List.mem_cons_of_mem _ h')]
theorem cat_low {R : List Rule} (hR : ∀ r ∈ R, ∀ c ∈ r.2, ∀ t ∈ c, TestOk t) : ∀ n : Nat, catT R (n : Int) ∈ seenR R 1200 := by
  intro n
  induction n using Nat.strongRecOn with
  | ind n ih =>
    by_cases h : n < 1200
    · exact List.mem_map.mpr ⟨n, List.mem_range.mpr h, rfl⟩
    · have e := cat_per hR (n := ((n - 100 : Nat) : Int)) (by omega)
      have e2 : ((n - 100 : Nat) : Int) + 100 = (n : Int) := by omega
      rw [e2] at e
      rw [e]
      exact ih (n - 100) (by omega)
theorem cat_w6 {R : List Rule} (hR : RulesOk R) (n : Int) : catT R n ∈ words6 := by
  unfold catT
  cases hf : R.findSome? (fun r => if ruleT n r then some r.1 else none) with
  | none => exact by decide
  | some x =>
    obtain ⟨r, hr, e⟩ := List.exists_of_findSome?_eq_some hf
    have e' : r.1 = x := by
      split at e
      · simpa using e
      · cases e
    have hm := hR.nm.subset (List.mem_map.mpr ⟨r, hr, e'⟩)
    have key : ∀ y ∈ words5, y ∈ words6 := by decide
    exact key x hm
theorem cat_can {R : List Rule} (hR : RulesOk R) (n : Nat) : catT R (n : Int) ∈ canT R := List.mem_filter.mpr ⟨cat_w6 hR _, decide_eq_true (cat_low hR.ts n)⟩
/-! houses -/
abbrev Sh := List Nat × D × Bk
def shD (s : Sh) : D := .tup [.str s.1, s.2.1, .tup (s.2.2.map bkP)]
def keyl : List (List Nat) := [[97], [98, 46, 99], [107, 101, 121], [108, 111, 110, 103, 46, 107, 101, 121], [122]]
structure BookOk (n : Nat) (B : Bk) : Prop where
  ks : (B.map (·.1)).Sublist keyl
  ms : ∀ p ∈ B, Dm n false p.2
theorem BookOk.nd {n : Nat} {B : Bk} (h : BookOk n B) : (B.map (·.1)).Nodup := (by decide : keyl.Nodup).sublist h.ks
theorem BookOk.len {n : Nat} {B : Bk} (h : BookOk n B) : B.length ≤ 5 := by have := h.ks.length_le; simpa [keyl] using this
structure HouseOk (n : Nat) (l0 : List Nat) (L : List (List Nat × List Nat)) (S : List Sh) : Prop where
  la : l0 ∈ tagl
  lk : Lks L
  nd : (S.map (·.1)).Nodup
  ts : ∀ s ∈ S, s.1 ∈ tagl
  hl : l0 ∈ S.map (·.1)
  bk : ∀ s ∈ S, BookOk n s.2.2
  ru : ∀ s ∈ S, ∃ R, RulesOk R ∧ s.2.1 = rulesD R
def hsD (la : List Nat) (L : List (List Nat × List Nat)) (S : List Sh) : D := .tup [.str la, .tup (L.map pairD), .tup (S.map shD)]
def enT : Nat → List (List Nat) → List (Nat × List Nat)
  | _, [] => []
  | n, t :: r => (n, t) :: enT (n + 1) r
def enD (p : Nat × List Nat) : D := .tup [.int p.1, .str p.2]
theorem enT_map : ∀ (T : List (List Nat)) (n : Nat), enumF n (T.map .str) = (enT n T).map enD
  | [], _ => rfl
  | t :: r, n => by rw [List.map_cons, enumF, enT_map r]; rfl
theorem enT_snd : ∀ (T : List (List Nat)) (n : Nat), (enT n T).map (·.2) = T
  | [], _ => rfl
  | t :: r, n => by rw [enT, List.map_cons, enT_snd r]
theorem law_book_spec (k W n : Nat) (c : Int) : ∃ B, run TF W (k + 2 * n + 4) 102 [.int c, .tup (keyl.map .str), .int (n : Int)] = .ok (.tup (B.map bkP)) ∧ BookOk (n + 1) B := by
  rw [run_eq (fn := f_law_book) rfl rfl]
  have s3 : small (3 : Int) = true := by decide
  have s37 : small (37 : Int) = true := by decide
  obtain ⟨ρ', e, B, r4, r5, h1, h2, hρ⟩ := forF_acc (φ := enD) (bd := exs (run TF W (k + 2 * n + 3)) W [3] f_law_book_b1) (tg := .tup [4, 5]) (l0 := enT 0 keyl) (I := fun done ρ => ∃ (B : Bk) (r4 r5 : Option D), (B.map (·.1)).Sublist (done.map (·.2)) ∧ (∀ p ∈ B, Dm (n + 1) false p.2) ∧ ρ = [some (.int c), some (.tup (keyl.map .str)), some (.int n), some (.lst (B.map bkP)), r4, r5]) (fun done a rest ρ hd ⟨B, r4, r5, h1, h2, e⟩ => by
    subst e
    obtain ⟨j, key⟩ := a
    have e0 := mix_spec (k + 2 * n + 2) W (c + 3 * (j : Int)) 9767 4 (by omega) (by omega) (by omega)
    generalize mixZ (c + 3 * (j : Int)) 9767 4 = m at e0
    obtain ⟨ms, e1, hm⟩ := message_specK W n k (c + 37 * (j : Int)) false
    have hl : B.length < LIM := limS (by
      have q1 := h1.length_le
      have q2 := congrArg List.length hd
      have q3 : (enT 0 keyl).length = 5 := rfl
      simp at q1 q2
      omega)
    by_cases hm0 : 0 < m
    · refine ⟨_, ?_, B ++ [(key, ms)], some (.int j), some (.str key), ?_, ?_, rfl⟩
      · simp [enD, f_law_book_b1, s3, s37, e0, e1, hm0, hl, bkP]
      · rw [List.map_append, List.map_append]
        exact List.Sublist.append h1 (List.Sublist.refl _)
      · intro p hp
        rcases List.mem_append.mp hp with z | z
        · exact h2 p z
        · rw [List.mem_singleton] at z; rw [z]; exact hm
    · refine ⟨_, ?_, B, some (.int j), some (.str key), ?_, h2, rfl⟩
      · simp [enD, f_law_book_b1, s3, e0, hm0]
      · rw [List.map_append]
        exact h1.trans (List.sublist_append_left _ _)) (l := enT 0 keyl) (done := []) (ρ := [some (.int c), some (.tup (keyl.map .str)), some (.int n), some (.lst []), none, none]) rfl ⟨[], none, none, List.Sublist.refl _, (fun p h => nomatch h), rfl⟩
  subst hρ
  rw [enT_snd] at h1
  refine ⟨B, ?_, h1, h2⟩
  simp [f_law_book, -List.map_map, enT_map, e]
theorem house_spec (k W n : Nat) (c : Int) : ∃ la L S, run TF W (k + 2 * n + 5) 103 [.int c, .int (n : Int)] = .ok (hsD la L S) ∧ HouseOk (n + 1) la L S := by
  rw [run_eq (fn := f_law_house) rfl rfl]
  have s41 : small (41 : Int) = true := by decide
  have s43 : small (43 : Int) = true := by decide
  obtain ⟨A, eA, tA, _⟩ := some_tags4 (k + 2 * n + 1) W c 4 (by omega) (by omega)
  obtain ⟨L, eL, lks⟩ := links_spec (k + 2 * n + 1) W (c + 1)
  have eT := tag_spec (k + 2 * n + 2) W (c + 2)
  have hla := tagAt_mem (c + 2)
  generalize tagAt (c + 2) = la at eT hla
  have hlA := tA.len
  obtain ⟨T, hT, ndT, tsT, laT⟩ : ∃ T : List (List Nat), (T = if la ∈ A then A else sortS (A ++ [la])) ∧ T.Nodup ∧ (∀ t ∈ T, t ∈ tagl) ∧ la ∈ T := by
    refine ⟨_, rfl, ?_⟩
    by_cases h : la ∈ A
    · rw [if_pos h]; exact ⟨tA.nd, tA.ts, h⟩
    · rw [if_neg h]
      have hm : ∀ x, x ∈ sortS (A ++ [la]) ↔ x ∈ A ∨ x = la := fun x => by rw [(sortS_perm _).mem_iff]; simp
      refine ⟨(sortS_perm _).nodup_iff.mpr ?_, fun t ht => ?_, (hm la).mpr (.inr rfl)⟩
      · rw [List.nodup_append]
        refine ⟨tA.nd, by simp, fun x hx y hy e => ?_⟩
        simp at hy
        subst hy e
        exact h hx
      · rcases (hm t).mp ht with z | z
        · exact tA.ts t z
        · rw [z]; exact hla
  have hlT : T.length ≤ 11 := nodup_len ndT tsT
  obtain ⟨ρ', e, S, r6, r7, h1, h2, h3, hρ⟩ := forF_acc (φ := enD) (bd := exs (run TF W (k + 2 * n + 4)) W [5] f_law_house_b1) (tg := .tup [6, 7]) (l0 := enT 0 T) (I := fun done ρ => ∃ (S : List Sh) (r6 r7 : Option D), S.map (·.1) = done.map (·.2) ∧ (∀ s ∈ S, BookOk (n + 1) s.2.2) ∧ (∀ s ∈ S, ∃ R, RulesOk R ∧ s.2.1 = rulesD R) ∧ ρ = [some (.int c), some (.int n), some (.lst (T.map .str)), some (.str la), some (.tup (keyl.map .str)), some (.lst (S.map shD)), r6, r7]) (fun done a rest ρ hd ⟨S, r6, r7, h1, h2, h3, e⟩ => by
    subst e
    obtain ⟨j, t⟩ := a
    obtain ⟨R, eR, hR⟩ := rules_spec (k + 2 * n + 1) W (c + 41 * (j : Int))
    obtain ⟨B, eB, hB⟩ := law_book_spec k W n (c + 43 * (j : Int))
    have hl : S.length < LIM := limS (by
      have q1 := congrArg List.length h1
      have q2 := congrArg List.length hd
      have q3 : (enT 0 T).length = T.length := by rw [← List.length_map (·.2), enT_snd]
      simp at q1 q2
      omega)
    refine ⟨_, ?_, S ++ [(t, rulesD R, B)], some (.int j), some (.str t), by simp [h1], ?_, ?_, rfl⟩
    · generalize keyl.map D.str = KL at *
      simp [enD, f_law_house_b1, s41, s43, eR, eB, hl, shD]
    · intro s hs
      rcases List.mem_append.mp hs with z | z
      · exact h2 s z
      · rw [List.mem_singleton] at z; rw [z]; exact hB
    · intro s hs
      rcases List.mem_append.mp hs with z | z
      · exact h3 s z
      · rw [List.mem_singleton] at z; rw [z]; exact ⟨R, hR, rfl⟩) (l := enT 0 T) (done := []) (ρ := [some (.int c), some (.int n), some (.lst (T.map .str)), some (.str la), some (.tup (keyl.map .str)), some (.lst []), none, none]) rfl ⟨[], none, none, rfl, (fun p h => nomatch h), (fun p h => nomatch h), rfl⟩
  subst hρ
  rw [enT_snd] at h1
  refine ⟨la, L, S, ?_, hla, lks, by rw [h1]; exact ndT, fun s hs => tsT _ (h1 ▸ List.mem_map.mpr ⟨s, hs, rfl⟩), by rw [h1]; exact laT, h2, h3⟩
  have l1 : A.length + 1 ≤ LIM := limL (by omega)
  have hstr : strsO ((A ++ [la]).map .str) = some (A ++ [la]) := by
    have := strsO_map (fun a : List Nat => a) (A ++ [la])
    simpa using this
  rw [List.map_append, List.map_cons, List.map_nil] at hstr
  simp only [keyl, List.map_cons, List.map_nil] at e
  by_cases h : la ∈ A
  · rw [if_pos h] at hT
    subst hT
    simp [f_law_house, eA, eT, nin_strs, h, -List.map_map, enT_map, e, eL, hsD]
  · rw [if_neg h] at hT
    have l2 : A.length + 1 < 64 := by omega
    simp [f_law_house, eA, eT, nin_strs, h, -List.map_map, -List.map_append, l1, hstr, l2, ← hT, enT_map, e, eL, hsD]
/-! what a house tells -/
def shO (S : List Sh) (t : List Nat) : Option Sh := S.find? fun s => decide (s.1 = t)
def bookOf (S : List Sh) (t : List Nat) : Bk := match shO S t with
  | some s => s.2.2
  | none => []
theorem some_find {α β : Type} (p : α → Bool) (f : α → β) : ∀ l : List α, l.findSome? (fun a => if p a then some (f a) else none) = (l.find? p).map f
  | [] => rfl
  | a :: r => by cases h : p a <;> simp [h, some_find p f r]
theorem bookOf_ok {n : Nat} {la : List Nat} {L : List (List Nat × List Nat)} {S : List Sh} (h : HouseOk n la L S) (t : List Nat) : BookOk n (bookOf S t) := by
  unfold bookOf
  cases hs : shO S t with
  | none => exact ⟨List.nil_sublist _, fun p hp => nomatch hp⟩
  | some s => exact h.bk s (List.mem_of_find?_eq_some hs)
def inB (S : List Sh) (key t : List Nat) : Bool := (lkB (bookOf S t) key).isSome
def chnS (la : List Nat) (L : List (List Nat × List Nat)) (t : List Nat) : List (List Nat) := finC (wk L 21 [] (some t)) (some la)
def whO (la : List Nat) (L : List (List Nat × List Nat)) (S : List Sh) (t key : List Nat) : Option (List Nat) := (chnS la L t).find? (inB S key)
theorem lkB_some {t : List Nat} {g : List D} : ∀ {B : Bk}, lkB B t = some g → (t, g) ∈ B
  | p :: r, h => by
    by_cases hp : p.1 = t
    · simp [lkB, hp] at h
      rw [← h, ← hp]; exact List.mem_cons_self
    · simp [lkB, hp] at h
      exact List.mem_cons_of_mem _ (lkB_some h)
theorem inB_key {S : List Sh} {la key : List Nat} (h : key ∈ (bookOf S la).map (·.1)) : inB S key la = true := by
  obtain ⟨g, e, _⟩ := lkB_mem h
  unfold inB
  rw [e]; rfl
theorem la_chn (la : List Nat) (L : List (List Nat × List Nat)) (t : List Nat) : la ∈ chnS la L t := by
  unfold chnS
  show la ∈ (if la ∈ wk L 21 [] (some t) then wk L 21 [] (some t) else wk L 21 [] (some t) ++ [la])
  split
  · assumption
  · simp
theorem house_len {n : Nat} {la : List Nat} {L : List (List Nat × List Nat)} {S : List Sh} (h : HouseOk n la L S) : S.length ≤ 11 := by
  have := nodup_len h.nd (U := tagl) (fun x hx => by
    obtain ⟨s, hs, rfl⟩ := List.mem_map.mp hx
    exact h.ts s hs)
  rw [List.length_map] at this
  exact this
theorem wh_last {la : List Nat} {L : List (List Nat × List Nat)} {S : List Sh} {t key : List Nat} (hk : key ∈ (bookOf S la).map (·.1)) : ∃ one, whO la L S t key = some one := by
  unfold whO
  cases hf : (chnS la L t).find? (inB S key) with
  | some one => exact ⟨one, rfl⟩
  | none =>
    rw [List.find?_eq_none] at hf
    exact absurd (inB_key hk) (hf la (la_chn la L t))
theorem wh_msg {n : Nat} {la : List Nat} {L : List (List Nat × List Nat)} {S : List Sh} (h : HouseOk n la L S) {t key one : List Nat} (e : whO la L S t key = some one) : ∃ g, lkB (bookOf S one) key = some g ∧ Dm n false g := by
  have h1 : inB S key one = true := List.find?_some e
  unfold inB at h1
  cases hl : lkB (bookOf S one) key with
  | none => rw [hl] at h1; cases h1
  | some g => exact ⟨g, rfl, (bookOf_ok h one).ms _ (lkB_some hl)⟩
theorem pd_tups (l : List (List (List Nat))) : (D.tup (l.map tupS)).pure = true ∧ (D.tup (l.map tupS)).depth ≤ 2 := by
  induction l with
  | nil => exact ⟨rfl, by simp [D.depth, D.depths]⟩
  | cons a r ih =>
    have h1 : ∀ ss : List (List Nat), D.pures (ss.map .str) = true ∧ D.depths (ss.map .str) = 0 := fun ss => by
      induction ss with
      | nil => exact ⟨rfl, rfl⟩
      | cons x y ih => exact ⟨by simp [D.pures, D.pure, ih.1], by simp [D.depths, D.depth, ih.2]⟩
    obtain ⟨i1, i2⟩ := ih
    simp only [D.pure, D.depth] at i1 i2 ⊢
    simp only [List.map_cons, D.pures, D.depths, tupS, D.pure, D.depth, (h1 a).1, (h1 a).2, Bool.true_and]
    exact ⟨i1, by omega⟩
mutual
theorem eq_selfG : ∀ d : D, d.pure = true → eqD d d = true
  | .non, _ => rfl
  | .bl b, _ => by simp [eqD]
  | .int i, _ => by simp [eqD]
  | .str s, _ => by simp [eqD]
  | .tup xs, h => by simp only [D.pure] at h; simp only [eqD]; exact eqs_selfG xs h
  | .lst _, h => by cases h
  | .dk _ _, h => by cases h
  | .dt _ _, h => by cases h
  | .scr _, h => by cases h
  | .adr _ _, h => by cases h
theorem eqs_selfG : ∀ l : List D, D.pures l = true → eqDs l l = true
  | [], _ => rfl
  | d :: r, h => by
    simp only [D.pures, Bool.and_eq_true] at h
    simp only [eqDs, eq_selfG d h.1, eqs_selfG r h.2]; rfl
end
mutual
theorem pure_flatG : ∀ d : D, d.pure = true → d.flatD = true
  | .non, _ => rfl
  | .bl b, _ => rfl
  | .int i, _ => rfl
  | .str s, _ => rfl
  | .tup xs, h => by simp only [D.pure] at h; simp only [D.flatD]; exact pures_flatG xs h
  | .lst _, h => by cases h
  | .dk _ _, h => by cases h
  | .dt _ _, h => by cases h
  | .scr _, h => by cases h
  | .adr _ _, h => by cases h
theorem pures_flatG : ∀ l : List D, D.pures l = true → D.flatDs l = true
  | [], _ => rfl
  | d :: r, h => by
    simp only [D.pures, Bool.and_eq_true] at h
    simp only [D.flatDs, pure_flatG d h.1, pures_flatG r h.2]; rfl
end
theorem pures_of : ∀ {xs : List D}, (∀ x ∈ xs, x.pure = true) → D.pures xs = true
  | [], _ => rfl
  | a :: r, h => by simp only [D.pures, h a List.mem_cons_self, pures_of (xs := r) fun x hx => h x (List.mem_cons_of_mem _ hx)]; rfl
theorem depths_of {n : Nat} : ∀ {xs : List D}, (∀ x ∈ xs, x.depth ≤ n) → D.depths xs ≤ n
  | [], _ => by simp [D.depths]
  | a :: r, h => by
    have h1 := h a List.mem_cons_self
    have h2 := depths_of (xs := r) fun x hx => h x (List.mem_cons_of_mem _ hx)
    simp only [D.depths]; omega
theorem rules_pd (R : List Rule) : (rulesD R).pure = true ∧ (rulesD R).depth ≤ 6 := by
  have ht : ∀ t : Test, (tsD t).pure = true ∧ (tsD t).depth ≤ 1 := fun t => ⟨rfl, by simp [tsD, D.depth, D.depths]⟩
  have hc : ∀ c : List Test, (chD c).pure = true ∧ (chD c).depth ≤ 2 := fun c => by
    have d1 := pures_of (xs := c.map tsD) fun x hx => by obtain ⟨t, _, rfl⟩ := List.mem_map.mp hx; exact (ht t).1
    have d2 := depths_of (n := 1) (xs := c.map tsD) fun x hx => by obtain ⟨t, _, rfl⟩ := List.mem_map.mp hx; exact (ht t).2
    simp only [chD, D.pure, D.depth, d1]; exact ⟨trivial, by omega⟩
  have hr : ∀ r : Rule, (ruD r).pure = true ∧ (ruD r).depth ≤ 4 := fun r => by
    have d1 := pures_of (xs := r.2.map chD) fun x hx => by obtain ⟨t, _, rfl⟩ := List.mem_map.mp hx; exact (hc t).1
    have d2 := depths_of (n := 2) (xs := r.2.map chD) fun x hx => by obtain ⟨t, _, rfl⟩ := List.mem_map.mp hx; exact (hc t).2
    simp [ruD, D.pure, D.pures, D.depth, D.depths, d1]; omega
  have d1 := pures_of (xs := R.map ruD) fun x hx => by obtain ⟨t, _, rfl⟩ := List.mem_map.mp hx; exact (hr t).1
  have d2 := depths_of (n := 4) (xs := R.map ruD) fun x hx => by obtain ⟨t, _, rfl⟩ := List.mem_map.mp hx; exact (hr t).2
  simp only [rulesD, D.pure, D.depth, d1]; exact ⟨trivial, by omega⟩
/-! books and houses that change -/
theorem dm_pd : ∀ {n : Nat} {b : Bool} {ps : List D}, Dm n b ps → D.pures ps = true ∧ D.depths ps ≤ 4 * n
  | 0, _, _, h => h.elim
  | n + 1, b, ps, ⟨_, _, h⟩ => by
    have hp : ∀ p ∈ ps, p.pure = true ∧ p.depth ≤ 4 * (n + 1) := fun p hp => by
      rcases h p hp with ⟨s, rfl, _⟩ | ⟨rfl, _⟩ | ⟨s, rfl, _⟩ | ⟨w, nm, kms, ks, rfl, hn, hk, kk, hm⟩
      · exact ⟨rfl, by simp [D.depth, D.depths]; omega⟩
      · exact ⟨rfl, by simp [D.depth, D.depths]; omega⟩
      · exact ⟨rfl, by simp [D.depth, D.depths]; omega⟩
      · have hc : ∀ d ∈ csD kms, d.pure = true ∧ d.depth ≤ 4 * n + 2 := fun d hd => by
          obtain ⟨x, hx, rfl⟩ := List.mem_map.mp hd
          have ih := dm_pd (hm x hx)
          have hx1 : x.1 ∈ ks ++ [D.str OTH] := by rw [← hk]; exact List.mem_map_of_mem hx
          have kp : x.1.pure = true ∧ x.1.depth = 0 := by
            rcases List.mem_append.mp hx1 with z | z
            · rcases kk with ⟨_, ns, ws, rfl, _⟩ | ⟨_, ss, rfl, _⟩
              · rcases List.mem_append.mp z with z | z <;> obtain ⟨y, _, e⟩ := List.mem_map.mp z <;> rw [← e] <;> exact ⟨rfl, rfl⟩
              · obtain ⟨y, _, e⟩ := List.mem_map.mp z; rw [← e]; exact ⟨rfl, rfl⟩
            · rw [List.mem_singleton] at z; rw [z]; exact ⟨rfl, rfl⟩
          simp only [D.pure, D.pures, D.depth, D.depths, kp.1, ih.1, kp.2, Bool.and_self]
          exact ⟨trivial, by omega⟩
        have d1 := pures_of (xs := csD kms) fun x hx => (hc x hx).1
        have d2 := depths_of (n := 4 * n + 2) (xs := csD kms) fun x hx => (hc x hx).2
        simp only [D.pure, D.pures, D.depth, D.depths, d1, Bool.and_self]
        exact ⟨trivial, by omega⟩
    exact ⟨pures_of fun p hpp => (hp p hpp).1, depths_of fun p hpp => (hp p hpp).2⟩
theorem ltS_irr : ∀ s : List Nat, ltS s s = false
  | [] => rfl
  | x :: r => by simp [ltS, ltS_irr r]
def keyA : List (List Nat) := keyl ++ [[110, 101, 119], [122, 122], [109]]
structure BkO (B : Bk) : Prop where
  so : (B.map (·.1)).Pairwise (fun a b => ltS a b = true)
  kl : ∀ k ∈ B.map (·.1), k ∈ keyA
  ms : ∀ p ∈ B, (D.tup p.2).pure = true ∧ (D.tup p.2).depth ≤ 9
theorem BkO.nd {B : Bk} (h : BkO B) : (B.map (·.1)).Nodup := h.so.imp fun {a b} h e => by subst e; rw [ltS_irr] at h; cases h
theorem nd_len {B : Bk} (hn : (B.map (·.1)).Nodup) (kl : ∀ k ∈ B.map (·.1), k ∈ keyA) : B.length ≤ 8 := by
  have := nodup_len hn (U := keyA) kl
  simpa [keyA, keyl] using this
def putBk : Bk → List Nat → List D → Bk
  | [], k, m => [(k, m)]
  | p :: r, k, m => if p.1 = k then (p.1, m) :: r else p :: putBk r k m
theorem put_bk (k : List Nat) (m : List D) : ∀ B : Bk, putK (Ky.s k) (.tup m) (bkK B) (bkV B) = (bkK (putBk B k m), bkV (putBk B k m))
  | [] => rfl
  | p :: r => by
    have ih := put_bk k m r
    simp only [bkK, bkV, List.map_cons] at ih ⊢
    by_cases h : p.1 = k
    · simp only [putK, putBk, h, if_true, List.map_cons]
    · have h' : ¬ (Ky.s p.1 = Ky.s k) := fun z => h (by injection z)
      simp only [putK, putBk, h, h', if_false, List.map_cons, ih]
theorem putBk_keys (k : List Nat) (m : List D) : ∀ B : Bk, (putBk B k m).map (·.1) = if k ∈ B.map (·.1) then B.map (·.1) else B.map (·.1) ++ [k]
  | [] => rfl
  | p :: r => by
    have ih := putBk_keys k m r
    by_cases h : p.1 = k
    · simp [putBk, h]
    · have h2 : ¬ k = p.1 := fun z => h z.symm
      simp only [putBk, h, if_false, List.map_cons, ih, List.mem_cons, h2, false_or]
      split <;> rfl
theorem putBk_nd {k : List Nat} {m : List D} {B : Bk} (h : (B.map (·.1)).Nodup) : ((putBk B k m).map (·.1)).Nodup := by
  rw [putBk_keys]
  split
  · exact h
  · rename_i hk
    exact List.nodup_append.mpr ⟨h, by simp, fun a ha b hb z => by rw [List.mem_singleton] at hb; subst hb; subst z; exact hk ha⟩
theorem putBk_mem {k : List Nat} {m : List D} : ∀ {B : Bk} {p : List Nat × List D}, p ∈ putBk B k m → p ∈ B ∨ p = (k, m)
  | [], p, h => .inr (by simpa [putBk] using h)
  | q :: r, p, h => by
    by_cases e : q.1 = k
    · simp only [putBk, e, if_true, List.mem_cons] at h
      rcases h with z | z
      · exact .inr z
      · exact .inl (List.mem_cons_of_mem _ z)
    · simp only [putBk, e, if_false, List.mem_cons] at h
      rcases h with z | z
      · exact .inl (by rw [z]; exact List.mem_cons_self)
      · rcases putBk_mem z with z | z
        · exact .inl (List.mem_cons_of_mem _ z)
        · exact .inr z
theorem lkB_put (k : List Nat) (m : List D) : ∀ B : Bk, lkB (putBk B k m) k = some m
  | [] => by simp [putBk, lkB]
  | p :: r => by
    by_cases h : p.1 = k
    · simp [putBk, h, lkB]
    · simp [putBk, h, lkB, lkB_put k m r]
def asB (B : Bk) : Bk := (sortS (B.map (·.1))).map fun k => (k, (lkB B k).getD [])
theorem asB_keys (B : Bk) : (asB B).map (·.1) = sortS (B.map (·.1)) := by
  unfold asB
  rw [List.map_map]
  exact (List.map_congr_left fun a _ => rfl).trans (List.map_id _)
theorem lkB_asB {B : Bk} {k : List Nat} : ∀ {l : List (List Nat)}, k ∈ l → lkB (l.map fun k => (k, (lkB B k).getD [])) k = some ((lkB B k).getD [])
  | a :: r, h => by
    by_cases e : a = k
    · simp [lkB, e]
    · rcases List.mem_cons.mp h with z | z
      · exact absurd z.symm e
      · simp only [List.map_cons, lkB, e, if_false]
        exact lkB_asB z
theorem asB_put (B : Bk) (k : List Nat) (m : List D) : lkB (asB (putBk B k m)) k = some m := by
  have hk : k ∈ sortS ((putBk B k m).map (·.1)) := (sortS_perm _).mem_iff.mpr (by
    rw [putBk_keys]
    split
    · assumption
    · simp)
  unfold asB
  rw [lkB_asB hk, lkB_put]
  rfl
theorem pw_strict {l : List (List Nat)} (hn : l.Nodup) (h : l.Pairwise leS) : l.Pairwise (fun a b => ltS a b = true) := by
  induction l with
  | nil => exact .nil
  | cons a r ih =>
    have h1 := List.pairwise_cons.mp h
    have n1 := List.nodup_cons.mp hn
    refine List.pairwise_cons.mpr ⟨fun b hb => ?_, ih n1.2 h1.2⟩
    cases e : ltS a b with
    | true => rfl
    | false =>
      have : a = b := leS_anti (h1.1 b hb) e
      rw [this] at n1
      exact absurd hb n1.1
theorem asB_id {B : Bk} (h : BkO B) : asB B = B := by
  have e : sortS (B.map (·.1)) = B.map (·.1) := List.Perm.eq_of_pairwise (fun a b _ _ => leS_anti) (sortS_pw _) (h.so.imp fun h => leS_of h) (sortS_perm _)
  have hn := h.nd
  unfold asB
  rw [e, List.map_map]
  have : ∀ (B : Bk), (B.map (·.1)).Nodup → ∀ p ∈ B, lkB B p.1 = some p.2 := by
    intro B
    induction B with
    | nil => intro _ p hp; cases hp
    | cons q r ih =>
      intro hn p hp
      simp only [List.map_cons] at hn
      have n1 := List.nodup_cons.mp hn
      rcases List.mem_cons.mp hp with z | z
      · rw [z]; simp [lkB]
      · have ne : ¬ q.1 = p.1 := fun e => n1.1 (by rw [e]; exact List.mem_map_of_mem z)
        simp only [lkB, ne, if_false]
        exact ih n1.2 p z
  have hl := this B hn
  have : B.map ((fun k => (k, (lkB B k).getD [])) ∘ fun x => x.1) = B.map id := List.map_congr_left fun p hp => by
    show (p.1, (lkB B p.1).getD []) = p
    rw [hl p hp]; rfl
  rw [this, List.map_id]
theorem asB_ok {B : Bk} (hn : (B.map (·.1)).Nodup) (kl : ∀ k ∈ B.map (·.1), k ∈ keyA) (ms : ∀ p ∈ B, (D.tup p.2).pure = true ∧ (D.tup p.2).depth ≤ 9) : BkO (asB B) := by
  refine ⟨?_, fun k hk => ?_, fun p hp => ?_⟩
  · rw [asB_keys]
    exact pw_strict ((sortS_perm _).nodup_iff.mpr hn) (sortS_pw _)
  · rw [asB_keys] at hk
    exact kl k ((sortS_perm _).mem_iff.mp hk)
  · unfold asB at hp
    obtain ⟨k, hk, rfl⟩ := List.mem_map.mp hp
    obtain ⟨g, e, hg⟩ := lkB_mem ((sortS_perm _).mem_iff.mp hk)
    show (D.tup ((lkB B k).getD [])).pure = true ∧ (D.tup ((lkB B k).getD [])).depth ≤ 9
    rw [e]
    exact ms _ hg
theorem put_ok {B : Bk} (h : BkO B) {k : List Nat} (hk : k ∈ keyA) {m : List D} (hm : (D.tup m).pure = true ∧ (D.tup m).depth ≤ 9) : BkO (asB (putBk B k m)) ∧ ((putBk B k m).map (·.1)).Nodup ∧ (putBk B k m).length ≤ 8 ∧ ∀ p ∈ putBk B k m, (D.tup p.2).pure = true := by
  have hn := putBk_nd (k := k) (m := m) h.nd
  have kl : ∀ x ∈ (putBk B k m).map (·.1), x ∈ keyA := fun x hx => by
    obtain ⟨p, hp, rfl⟩ := List.mem_map.mp hx
    rcases putBk_mem hp with z | z
    · exact h.kl _ (List.mem_map_of_mem z)
    · rw [z]; exact hk
  have ms : ∀ p ∈ putBk B k m, (D.tup p.2).pure = true ∧ (D.tup p.2).depth ≤ 9 := fun p hp => by
    rcases putBk_mem hp with z | z
    · exact h.ms p z
    · rw [z]; exact hm
  exact ⟨asB_ok hn kl ms, hn, nd_len hn kl, fun p hp => (ms p hp).1⟩
theorem sorted_bk {B : Bk} (hl : B.length ≤ 8) : bltD .sorted (.dk (bkK B) (bkV B)) = .ok (.lst ((sortS (B.map (·.1))).map .str)) := by
  simp only [bltD, keyD_bk, ofO, ok_bind, List.length_map]
  rw [if_pos (by omega)]
theorem idx_bk {B : Bk} {k : List Nat} (hk : k ∈ B.map (·.1)) : idxD (.dk (bkK B) (bkV B)) (.str k) = .ok (.tup ((lkB B k).getD [])) := by
  obtain ⟨g, e, _⟩ := lkB_mem hk
  simp only [idxD, D.ky, look_bk, e, Option.map_some, ofO, Option.getD_some]
theorem as_book_spec (k W : Nat) {B : Bk} (hl : B.length ≤ 8) : run TF W (k + 1) 125 [.dk (bkK B) (bkV B)] = .ok (.tup ((asB B).map bkP)) := by
  rw [run_eq (fn := f_as_book) rfl rfl]
  have e : ev (run TF W k) (.lc [1] (.one 1) (.seq (.blt .sorted (.var 0))) [] (.tup [(.var 1), (.idx (.var 0) (.var 1))])) [some (.dk (bkK B) (bkV B)), none] = .ok (.lst ((asB B).map bkP)) := by
    rw [ev_lcS]
    simp only [its_seq, ev_blt, ev_var, List.getD_cons_zero, ofO_some, ok_bind, sorted_bk hl, seq_lst]
    rw [mapF_of (φ := D.str) (ψ := fun k => bkP (k, (lkB B k).getD [])) fun k hk => by
      have := idx_bk ((sortS_perm _).mem_iff.mp hk)
      simp [elF, this, bkP]]
    simp [asB, List.map_map, Function.comp_def]
  simp [f_as_book, -ev_lcS, e]
structure HsO (la : List Nat) (L : List (List Nat × List Nat)) (S : List Sh) : Prop where
  la : la ∈ tagl
  lk : Lks L
  nd : (S.map (·.1)).Nodup
  ts : ∀ s ∈ S, s.1 ∈ tagl
  bk : ∀ s ∈ S, BkO s.2.2
  ru : ∀ s ∈ S, s.2.1.pure = true ∧ s.2.1.depth ≤ 6
theorem keyl_so : keyl.Pairwise (fun a b => ltS a b = true) := by decide
theorem hsO_of {la : List Nat} {L : List (List Nat × List Nat)} {S : List Sh} (h : HouseOk 2 la L S) : HsO la L S where
  la := h.la
  lk := h.lk
  nd := h.nd
  ts := h.ts
  bk := fun s hs => ⟨keyl_so.sublist (h.bk s hs).ks, fun k hk => List.mem_append_left _ ((h.bk s hs).ks.subset hk), fun p hp => by
    obtain ⟨a, b⟩ := dm_pd ((h.bk s hs).ms p hp)
    exact ⟨by simpa [D.pure] using a, by simp only [D.depth]; omega⟩⟩
  ru := fun s hs => by
    obtain ⟨R, _, e⟩ := h.ru s hs
    rw [e]; exact rules_pd R
theorem bookOfN {S : List Sh} (h : ∀ s ∈ S, BkO s.2.2) (t : List Nat) : BkO (bookOf S t) := by
  unfold bookOf
  cases hs : shO S t with
  | none => exact ⟨.nil, (fun k hk => nomatch hk), (fun p hp => nomatch hp)⟩
  | some s => exact h s (List.mem_of_find?_eq_some hs)
/-! with_books, handed a change -/
def chS (S : List Sh) (ch : List Nat → Bk → Bk) : List Sh := S.map fun s => (s.1, s.2.1, asB (ch s.1 s.2.2))
theorem bkV_pure : ∀ {B : Bk}, (∀ p ∈ B, (D.tup p.2).pure = true) → D.pures (bkV B) = true
  | [], _ => rfl
  | a :: r, h => by
    have ih := bkV_pure (B := r) fun p hp => h p (List.mem_cons_of_mem _ hp)
    have h1 := h a List.mem_cons_self
    simp only [bkV, List.map_cons, D.pures] at ih ⊢
    rw [ih, h1]; rfl
theorem clo_dict (F : Nat → List D → R D) (c : Nat) (cs : List D) {one : List Nat} {B B' : Bk} (hB : ∀ p ∈ B, (D.tup p.2).pure = true) (hB' : ∀ p ∈ B', (D.tup p.2).pure = true)
    (h : F (4000000 + c) ([.str one, .dk (bkK B) (bkV B)] ++ cs) = .ok (.dk (bkK B') (bkV B'))) : cloF F c cs 1999998 [.str one, .dk (bkK B) (bkV B)] = .ok (.dk (bkK B') (bkV B')) := by
  show (if conA [.str one, .dk (bkK B) (bkV B)] then dkR (F (4000000 + c) ([.str one, .dk (bkK B) (bkV B)] ++ cs)) else .no) = _
  have e : conA [.str one, .dk (bkK B) (bkV B)] = true := by
    show (D.pure (.str one) && D.pures (bkV B)) = true
    rw [bkV_pure hB]; rfl
  rw [e, if_pos rfl, h]
  show (if D.pures (bkV B') then _ else _) = _
  rw [bkV_pure hB', if_pos rfl]
theorem with_books_gen (k W c : Nat) (cs : List D) {la : List Nat} {L : List (List Nat × List Nat)} {S : List Sh} {ch : List Nat → Bk → Bk} (hS : ∀ s ∈ S, BkO s.2.2) (hl : ∀ s ∈ S, (ch s.1 s.2.2).length ≤ 8 ∧ ∀ p ∈ ch s.1 s.2.2, (D.tup p.2).pure = true)
    (hg : ∀ s ∈ S, run TF W (k + 1) (4000000 + c) ([.str s.1, .dk (bkK s.2.2) (bkV s.2.2)] ++ cs) = .ok (.dk (bkK (ch s.1 s.2.2)) (bkV (ch s.1 s.2.2)))) :
    runB (cloF (run TF W (k + 1)) c cs) W f_with_books [hsD la L S, .adr 999999 none] = .ok (hsD la L (chS S ch)) := by
  have e : ev (cloF (run TF W (k + 1)) c cs) (.lc [5, 6, 7] (.tup [5, 6, 7]) (.seq (.var 4)) [] (.tup [(.var 5), (.var 6), (.call 125 [(.calw 1 [(.var 5), (.blt .dict (.var 7))])])])) [some (hsD la L S), some (.adr 999999 none), some (.str la), some (.tup (L.map pairD)), some (.tup (S.map shD)), none, none, none] = .ok (.lst ((chS S ch).map shD)) := by
    rw [ev_lcS]
    simp only [its_seq, ev_var, List.getD_cons_zero, List.getD_cons_succ, ofO_some, ok_bind, seq_tup]
    rw [mapF_of (φ := shD) (ψ := fun s => shD (s.1, s.2.1, asB (ch s.1 s.2.2))) fun s hs => by
      have e1 := clo_dict (run TF W (k + 1)) c cs (fun p hp => ((hS s hs).ms p hp).1) (hl s hs).2 (hg s hs)
      have e2 : cloF (run TF W (k + 1)) c cs 125 [.dk (bkK (ch s.1 s.2.2)) (bkV (ch s.1 s.2.2))] = .ok (.tup ((asB (ch s.1 s.2.2)).map bkP)) := as_book_spec k W (hl s hs).1
      have e3 := dict_bk (hS s hs).nd
      have e4 : ∀ ρ : Rho, ρ.getD 1 none = some (.adr 999999 none) → ρ.getD 5 none = some (.str s.1) → ρ.getD 7 none = some (.tup (s.2.2.map bkP)) → ev (cloF (run TF W (k + 1)) c cs) (.calw 1 [(.var 5), (.blt .dict (.var 7))]) ρ = .ok (.dk (bkK (ch s.1 s.2.2)) (bkV (ch s.1 s.2.2))) := by
        intro ρ h1 h5 h7
        have : evs (cloF (run TF W (k + 1)) c cs) [(.var 5), (.blt .dict (.var 7))] ρ = .ok [.str s.1, .dk (bkK s.2.2) (bkV s.2.2)] := by
          simp only [evs_cons, evs_nil, ev_var, ev_blt, h5, h7, ofO_some, ok_bind, e3]
        show (match ρ.getD 1 none with
          | some (.adr f _) => if f = 999999 then (match evs (cloF (run TF W (k + 1)) c cs) [(.var 5), (.blt .dict (.var 7))] ρ with | .ok ds => cloF (run TF W (k + 1)) c cs 1999998 ds | _ => .no) else .no
          | _ => .no) = _
        rw [h1, this]
        exact e1
      have e5 := e4 (setR (setR (setR (wipeR [some (hsD la L S), some (.adr 999999 none), some (.str la), some (.tup (L.map pairD)), some (.tup (S.map shD)), none, none, none] [5, 6, 7]) 5 (.str s.1)) 6 s.2.1) 7 (.tup (s.2.2.map bkP))) rfl rfl rfl
      generalize cloF (run TF W (k + 1)) c cs = CF at *
      simp [elF, shD] at e5 ⊢
      simp [e5, e2]]
    simp [chS, List.map_map, Function.comp_def]
  unfold hsD at e ⊢
  simp [runB, f_with_books, -ev_lcS, e]
theorem ex_retC {W : Nat} {M js : List Nat} {k c : Nat} {cs : List D} {la : List Nat} {L : List (List Nat × List Nat)} {S S' : List Sh} {ρ : Rho} {i : Nat} (h0 : ρ.getD 0 none = some (hsD la L S)) (hi : ρ.getD i none = none) (hc : capt ρ js = .ok cs) (pc : D.pures cs = true) (p0 : (hsD la L S).pure = true) (p1 : (hsD la L S').pure = true)
    (h : runB (cloF (run TF W k) c cs) W f_with_books [hsD la L S, .adr 999999 none] = .ok (hsD la L S')) : ex (run TF W (k + 1)) W M (.retC 126 (.var 0) c js i) ρ = .ok (.rt (hsD la L S')) := by
  have e1 : ev (run TF W (k + 1)) (.var 0) ρ = .ok (hsD la L S) := by rw [ev_var, h0, ofO_some]
  have e3 : run TF W (k + 1) (2000000 + 126) [hsD la L S, D.dt [] (.int (c : Nat) :: cs)] = runB (cloF (run TF W k) c cs) W f_with_books [hsD la L S, .adr 999999 none] := by rfl
  show (if (ρ.getD i none).isSome then .no else match ev (run TF W (k + 1)) (.var 0) ρ, capt ρ js with
      | .ok d, .ok cs => if d.pure && D.pures cs then (match pureR (run TF W (k + 1) (2000000 + 126) [d, .dt [] (.int c :: cs)]) with | .ok r => R.ok (Fl.rt r) | _ => .no) else .no
      | _, _ => .no) = _
  rw [hi, e1, hc]
  show (if (hsD la L S).pure && D.pures cs then (match pureR (run TF W (k + 1) (2000000 + 126) [hsD la L S, .dt [] (.int c :: cs)]) with | .ok r => R.ok (Fl.rt r) | _ => .no) else .no) = _
  rw [p0, pc, e3, h]
  simp only [Bool.and_self, if_true, pureR, p1]
theorem pair_pd (L : List (List Nat × List Nat)) : D.pures (L.map pairD) = true ∧ D.depths (L.map pairD) ≤ 1 :=
  ⟨pures_of fun x hx => by obtain ⟨p, _, rfl⟩ := List.mem_map.mp hx; rfl, depths_of fun x hx => by obtain ⟨p, _, rfl⟩ := List.mem_map.mp hx; simp [pairD, D.depth, D.depths]⟩
theorem hs_pd {la : List Nat} {L : List (List Nat × List Nat)} {S : List Sh} (h : HsO la L S) : (hsD la L S).pure = true ∧ (hsD la L S).depth ≤ 14 := by
  have hb : ∀ s ∈ S, (shD s).pure = true ∧ (shD s).depth ≤ 12 := fun s hs => by
    have p1 := pures_of (xs := s.2.2.map bkP) fun x hx => by
      obtain ⟨p, hp, rfl⟩ := List.mem_map.mp hx
      have := ((h.bk s hs).ms p hp).1
      simp [bkP, D.pure, D.pures] at this ⊢
      exact this
    have p2 := depths_of (n := 10) (xs := s.2.2.map bkP) fun x hx => by
      obtain ⟨p, hp, rfl⟩ := List.mem_map.mp hx
      have := ((h.bk s hs).ms p hp).2
      simp [bkP, D.depth, D.depths] at this ⊢
      omega
    obtain ⟨r1, r2⟩ := h.ru s hs
    simp only [shD, D.pure, D.pures, D.depth, D.depths, r1, p1, Bool.and_self]
    exact ⟨trivial, by omega⟩
  have d1 := pures_of (xs := S.map shD) fun x hx => by obtain ⟨s, hs, rfl⟩ := List.mem_map.mp hx; exact (hb s hs).1
  have d2 := depths_of (n := 12) (xs := S.map shD) fun x hx => by obtain ⟨s, hs, rfl⟩ := List.mem_map.mp hx; exact (hb s hs).2
  obtain ⟨l1, l2⟩ := pair_pd L
  simp only [hsD, D.pure, D.pures, D.depth, D.depths, d1, l1, Bool.and_self]
  exact ⟨trivial, by omega⟩
theorem chS_tags (S : List Sh) (ch : List Nat → Bk → Bk) : (chS S ch).map (·.1) = S.map (·.1) := by
  unfold chS
  rw [List.map_map]; rfl
theorem hsO_ch {la : List Nat} {L : List (List Nat × List Nat)} {S : List Sh} (h : HsO la L S) {ch : List Nat → Bk → Bk} (hc : ∀ s ∈ S, BkO (asB (ch s.1 s.2.2))) : HsO la L (chS S ch) where
  la := h.la
  lk := h.lk
  nd := by rw [chS_tags]; exact h.nd
  ts := fun s hs => by obtain ⟨x, hx, rfl⟩ := List.mem_map.mp hs; exact h.ts x hx
  bk := fun s hs => by obtain ⟨x, hx, rfl⟩ := List.mem_map.mp hs; exact hc x hx
  ru := fun s hs => by obtain ⟨x, hx, rfl⟩ := List.mem_map.mp hs; exact h.ru x hx
theorem shO_ch (ch : List Nat → Bk → Bk) (t : List Nat) : ∀ S : List Sh, shO (chS S ch) t = (shO S t).map fun s => (s.1, s.2.1, asB (ch s.1 s.2.2))
  | [] => rfl
  | a :: r => by
    have ih := shO_ch ch t r
    unfold shO chS at ih ⊢
    simp only [List.map_cons, List.find?_cons]
    cases decide (a.1 = t) with
    | true => rfl
    | false => exact ih
theorem shO_mem {S : List Sh} {t : List Nat} : (shO S t).isSome = decide (t ∈ S.map (·.1)) := by
  unfold shO
  rw [Bool.eq_iff_iff, List.find?_isSome]
  simp only [decide_eq_true_eq, List.mem_map]

/-! k26: keys that go and move -/
def delBk (B : Bk) (k : List Nat) : Bk := B.filter fun p => !decide (p.1 = k)
theorem del_bk (k : List Nat) : ∀ B : Bk, delK (Ky.s k) (bkK B) (bkV B) = (bkK (delBk B k), bkV (delBk B k))
  | [] => rfl
  | p :: r => by
    have ih := del_bk k r
    simp only [bkK, bkV, delBk, List.map_cons] at ih ⊢
    by_cases h : p.1 = k
    · simp only [delK, h, if_true, ih, List.filter_cons, decide_true, Bool.not_true]
      rfl
    · have h' : ¬ (Ky.s p.1 = Ky.s k) := fun z => h (by injection z)
      simp only [delK, h', if_false, ih, List.filter_cons, decide_eq_false h, Bool.not_false, if_true, List.map_cons]
theorem delBk_sub (B : Bk) (k : List Nat) : (delBk B k).Sublist B := List.filter_sublist
theorem delBk_ok {B : Bk} (h : BkO B) (k : List Nat) : BkO (delBk B k) :=
  ⟨h.so.sublist ((delBk_sub B k).map _), fun x hx => h.kl x (((delBk_sub B k).map _).subset hx), fun p hp => h.ms p ((delBk_sub B k).subset hp)⟩
theorem lkB_del (k x : List Nat) : ∀ B : Bk, lkB (delBk B k) x = if x = k then none else lkB B x
  | [] => by simp [delBk, lkB]
  | p :: r => by
    have ih := lkB_del k x r
    unfold delBk at ih ⊢
    by_cases h : p.1 = k
    · simp only [List.filter_cons, h, decide_true, Bool.not_true, Bool.false_eq_true, if_false, ih, lkB]
      by_cases hx : x = k
      · simp [hx]
      · have : ¬ k = x := fun z => hx z.symm
        simp [hx, this]
    · simp only [List.filter_cons, decide_eq_false h, Bool.not_false, if_true, lkB, ih]
      by_cases hx : x = k
      · have : ¬ p.1 = x := fun z => h (z.trans hx)
        simp [hx, this, h]
      · simp [hx]
theorem lkB_putG (k x : List Nat) (m : List D) : ∀ B : Bk, lkB (putBk B k m) x = if x = k then some m else lkB B x
  | [] => by
    by_cases hx : x = k
    · simp [putBk, lkB, hx]
    · have : ¬ k = x := fun z => hx z.symm
      simp [putBk, lkB, hx, this]
  | p :: r => by
    have ih := lkB_putG k x m r
    by_cases h : p.1 = k
    · simp only [putBk, h, if_true, lkB]
      by_cases hx : x = k
      · simp [hx]
      · have : ¬ k = x := fun z => hx z.symm
        simp [hx, this]
    · simp only [putBk, h, if_false, lkB, ih]
      by_cases hx : x = k
      · have : ¬ p.1 = x := fun z => h (z.trans hx)
        simp [hx, this, h]
      · simp [hx]
theorem lkB_isS {x : List Nat} : ∀ {B : Bk}, (lkB B x).isSome = true ↔ x ∈ B.map (·.1)
  | [] => by simp [lkB]
  | p :: r => by
    by_cases h : p.1 = x
    · simp [lkB, h]
    · have h2 : ¬ x = p.1 := fun z => h z.symm
      rw [List.map_cons, List.mem_cons, ← lkB_isS (B := r)]
      simp only [lkB, h, if_false, h2, false_or]
theorem lkB_nin {x : List Nat} {B : Bk} (h : x ∉ B.map (·.1)) : lkB B x = none := by
  cases e : lkB B x with
  | none => rfl
  | some g => exact absurd (lkB_isS.mp (by rw [e]; rfl)) h
theorem lkB_asG (B : Bk) (x : List Nat) : lkB (asB B) x = lkB B x := by
  by_cases h : x ∈ B.map (·.1)
  · have hk : x ∈ sortS (B.map (·.1)) := (sortS_perm _).mem_iff.mpr h
    unfold asB
    rw [lkB_asB hk]
    obtain ⟨g, e, _⟩ := lkB_mem h
    rw [e]; rfl
  · rw [lkB_nin h, lkB_nin (by rw [asB_keys]; exact fun z => h ((sortS_perm _).mem_iff.mp z))]
theorem asB_ext {X Y : Bk} (hx : (X.map (·.1)).Nodup) (hy : (Y.map (·.1)).Nodup) (h : ∀ k, lkB X k = lkB Y k) : asB X = asB Y := by
  have hp : (X.map (·.1)).Perm (Y.map (·.1)) := (List.perm_ext_iff_of_nodup hx hy).mpr fun k => by rw [← lkB_isS, ← lkB_isS, h]
  have e : sortS (X.map (·.1)) = sortS (Y.map (·.1)) := List.Perm.eq_of_pairwise (fun a b _ _ => leS_anti) (sortS_pw _) (sortS_pw _) (((sortS_perm _).trans hp).trans (sortS_perm _).symm)
  unfold asB
  rw [e]
  exact List.map_congr_left fun k _ => by rw [h]
def mvBk (old new : List Nat) (B : Bk) : Bk := if (lkB B old).isSome then putBk (delBk B old) new ((lkB B old).getD []) else B
theorem mvBk_nd {old new : List Nat} {B : Bk} (h : (B.map (·.1)).Nodup) : ((mvBk old new B).map (·.1)).Nodup := by
  unfold mvBk
  split
  · exact putBk_nd (h.sublist ((delBk_sub B old).map _))
  · exact h
theorem lkB_mv (old new x : List Nat) (B : Bk) : lkB (mvBk old new B) x = if (lkB B old).isSome then (if x = new then lkB B old else if x = old then none else lkB B x) else lkB B x := by
  unfold mvBk
  split
  · rename_i h
    rw [lkB_putG, lkB_del]
    obtain ⟨g, e⟩ := Option.isSome_iff_exists.mp h
    rw [e]; rfl
  · rfl
theorem mv_ok {B : Bk} (h : BkO B) (old : List Nat) {new : List Nat} (hk : new ∈ keyA) : BkO (asB (mvBk old new B)) ∧ (mvBk old new B).length ≤ 8 ∧ ∀ p ∈ mvBk old new B, (D.tup p.2).pure = true := by
  unfold mvBk
  split
  · rename_i hs
    obtain ⟨g, e⟩ := Option.isSome_iff_exists.mp hs
    obtain ⟨a, _, c, d⟩ := put_ok (delBk_ok h old) hk (m := g) (h.ms (old, g) (lkB_some e))
    rw [e]
    exact ⟨a, c, d⟩
  · exact ⟨by rw [asB_id h]; exact h, nd_len h.nd h.kl, fun p hp => (h.ms p hp).1⟩
theorem mv_back {B : Bk} (h : BkO B) {old new : List Nat} (hn : lkB B new = none) (hne : old ≠ new) : asB (mvBk new old (asB (mvBk old new B))) = B := by
  refine Eq.trans (asB_ext (Y := B) (mvBk_nd (by rw [asB_keys]; exact (sortS_perm _).nodup_iff.mpr (mvBk_nd h.nd))) h.nd fun k => ?_) (asB_id h)
  rw [lkB_mv, lkB_asG, lkB_mv, lkB_asG, lkB_mv]
  have hne' : ¬ new = old := fun z => hne z.symm
  cases e : lkB B old with
  | none => simp [hn]
  | some g =>
    simp
    by_cases h1 : k = old
    · simp [h1, e]
    · by_cases h2 : k = new
      · simp [h1, h2, hn, hne']
      · simp [h1, h2]
theorem cloW (k W : Nat) {key one : List Nat} {B : Bk} : run TF W (k + 1) 4000000 [.str one, .dk (bkK B) (bkV B), .str key] = .ok (.dk (bkK (delBk B key)) (bkV (delBk B key))) := by
  rw [run_eq (fn := f_without_key_l0) rfl rfl]
  have hp := del_bk key B
  simp [f_without_key_l0, popX, D.ky, hp]
theorem ex_mvk (F : Nat → List D → R D) (W : Nat) (M : List Nat) {i : Nat} {k1 k2 : E} {ρ : Rho} {old new : List Nat} {B : Bk} {g : List D} (hi : ρ.getD i none = some (.dk (bkK B) (bkV B))) (h2 : ev F k2 ρ = .ok (.str old)) (h1 : ev F k1 ρ = .ok (.str new)) (hg : lkB B old = some g) (hl : B.length ≤ 8) :
    ex F W M (.mvk i k1 k2) ρ = .ok (.nx (setR ρ i (.dk (bkK (mvBk old new B)) (bkV (mvBk old new B))))) := by
  have hL : (bkK B).length < LIM := by simp only [bkK, List.length_map]; exact Nat.lt_of_le_of_lt hl (by decide)
  have e1 := del_bk old B
  have e2 := put_bk new g (delBk B old)
  have em : mvBk old new B = putBk (delBk B old) new g := by unfold mvBk; rw [hg]; rfl
  simp only [ex]
  rw [hi]
  simp only [h2, h1, ok_bind, D.ky, look_bk, hg, Option.map_some, hL, if_true, e1, e2, em]
theorem cloM (k W : Nat) {old new one : List Nat} {B : Bk} (hl : B.length ≤ 8) : run TF W (k + 1) 4000001 [.str one, .dk (bkK B) (bkV B), .str old, .str new] = .ok (.dk (bkK (mvBk old new B)) (bkV (mvBk old new B))) := by
  rw [run_eq (fn := f_moved_l0) rfl rfl]
  cases hg : lkB B old with
  | some g =>
    have e := ex_mvk (run TF W k) W [1] (i := 1) (k1 := .var 3) (k2 := .var 2) (ρ := [some (.str one), some (.dk (bkK B) (bkV B)), some (.str old), some (.str new)]) rfl rfl rfl hg hl
    simp [f_moved_l0, look_bk, hg, e]
  | none =>
    have em : mvBk old new B = B := by unfold mvBk; rw [hg]; rfl
    rw [em]
    simp [f_moved_l0, look_bk, hg]
theorem wo_spec (k W : Nat) {la : List Nat} {L : List (List Nat × List Nat)} {S : List Sh} (h : HsO la L S) (key : List Nat) : run TF W (k + 3) 130 [hsD la L S, .str key] = .ok (hsD la L (chS S fun _ B => delBk B key)) := by
  rw [run_eq (fn := f_without_key) rfl rfl]
  have hd := fun s (hs : s ∈ S) => delBk_ok (h.bk s hs) key
  have e2 := with_books_gen k W 0 [.str key] (la := la) (L := L) (ch := fun _ B => delBk B key) h.bk (fun s hs => ⟨nd_len (hd s hs).nd (hd s hs).kl, fun p hp => ((hd s hs).ms p hp).1⟩) fun s hs => cloW k W
  have h2 : HsO la L (chS S fun _ B => delBk B key) := hsO_ch h fun s hs => by rw [asB_id (hd s hs)]; exact hd s hs
  have e3 := ex_retC (W := W) (M := []) (js := [1]) (i := 2) (ρ := [some (hsD la L S), some (.str key), none]) rfl rfl rfl rfl (hs_pd h).1 (hs_pd h2).1 e2
  generalize hsD la L (chS S fun _ B => delBk B key) = H2 at *
  generalize hsD la L S = HH at *
  simp [f_without_key, e3]
def hasK (S : List Sh) (key : List Nat) : Bool := S.any fun s => (lkB s.2.2 key).isSome
theorem hs_ix2 (la : List Nat) (L : List (List Nat × List Nat)) (S : List Sh) : idxD (hsD la L S) (.int 2) = .ok (.tup (S.map shD)) := by unfold hsD; rw [idx_tup, eat2]; rfl
theorem has_spec (k W : Nat) {la : List Nat} {L : List (List Nat × List Nat)} {S : List Sh} (h : ∀ s ∈ S, BkO s.2.2) (key : List Nat) : run TF W (k + 1) 131 [hsD la L S, .str key] = .ok (.bl (hasK S key)) := by
  rw [run_eq (fn := f_has_key) rfl rfl]
  have e : ev (run TF W k) (.lc [2, 3, 4] (.tup [2, 3, 4]) (.seq (.idx (.var 0) (.cst (.int 2)))) [] (.cmp .inn (.var 1) (.blt .dict (.var 4)))) [some (hsD la L S), some (.str key), none, none, none] = .ok (.lst (S.map fun s => D.bl (lkB s.2.2 key).isSome)) := by
    have a2 := hs_ix2 la L S
    have hs : its (run TF W k) (.seq (.idx (.var 0) (.cst (.int 2)))) [some (hsD la L S), some (.str key), none, none, none] = .ok (S.map shD) := by
      generalize hsD la L S = HH at *
      simp [a2]
    rw [ev_lcS, hs, ok_bind]
    generalize hsD la L S = HH
    rw [mapF_of (ψ := fun s : Sh => D.bl (lkB s.2.2 key).isSome) fun s hsm => by
      have e3 := dict_bk (h s hsm).nd
      simp [elF, shD, e3, -dict_tup, look_bk]]
    rfl
  generalize hsD la L S = HH at *
  have eb := bools_map (fun s : Sh => (lkB s.2.2 key).isSome) S
  have : (S.map fun s => (lkB s.2.2 key).isSome).any id = hasK S key := by simp [hasK, List.any_map, Function.comp_def]
  simp [f_has_key, -ev_lcS, e, eb]
  simpa [List.any_map, Function.comp_def] using this
def mvS (S : List Sh) (old new : List Nat) : List Sh := chS S fun _ B => mvBk old new B
theorem mvS_ok {la : List Nat} {L : List (List Nat × List Nat)} {S : List Sh} (h : HsO la L S) (old : List Nat) {new : List Nat} (hk : new ∈ keyA) : HsO la L (mvS S old new) := hsO_ch h fun s hs => (mv_ok (h.bk s hs) old hk).1
theorem moved_spec (k W : Nat) {la : List Nat} {L : List (List Nat × List Nat)} {S : List Sh} (h : HsO la L S) (old : List Nat) {new : List Nat} (hk : new ∈ keyA) :
    run TF W (k + 3) 132 [hsD la L S, .str old, .str new] = if hasK S old then (if hasK S new then .exc ⟨4, none⟩ else .ok (hsD la L (mvS S old new))) else .exc ⟨3, none⟩ := by
  rw [run_eq (fn := f_moved) rfl rfl]
  have e1 := has_spec (k + 1) W (la := la) (L := L) h.bk old
  have e1' := has_spec (k + 1) W (la := la) (L := L) h.bk new
  have e2 := with_books_gen k W 1 [.str old, .str new] (la := la) (L := L) (ch := fun _ B => mvBk old new B) h.bk (fun s hs => (mv_ok (h.bk s hs) old hk).2) fun s hs => cloM k W (nd_len (h.bk s hs).nd (h.bk s hs).kl)
  have e3 := ex_retC (W := W) (M := []) (js := [1, 2]) (i := 3) (ρ := [some (hsD la L S), some (.str old), some (.str new), none]) rfl rfl rfl rfl (hs_pd h).1 (hs_pd (mvS_ok h old hk)).1 e2
  rw [show (chS S fun _ B => mvBk old new B) = mvS S old new from rfl] at e2
  generalize hsD la L (mvS S old new) = H2 at *
  generalize hsD la L S = HH at *
  cases h1 : hasK S old with
  | false => rw [h1] at e1; simp [f_moved, e1]
  | true =>
    rw [h1] at e1
    cases h2 : hasK S new with
    | true => rw [h2] at e1'; simp [f_moved, e1, e1']
    | false => rw [h2] at e1'; simp [f_moved, e1, e1', e3]
def noK : D := .tup [.str [110, 111], .bl true, .bl false, .bl false]
def noT : D := .tup [.str [110, 111], .bl false, .bl true, .bl false]
theorem hnd26a (h t k : D) : exHs ⟨3, none⟩ [(.asg 5 (.ors [5, 2, 1])), (.asg 3 (.tup [(.cst (.str [110, 111])), (.isx 3), (.isx 4), (.var 5)]))] [some h, some t, some k, some .non, none, none] = .ok [some h, some t, some k, some noK, none, some (.bl false)] := rfl
theorem hnd26b (h t k : D) : exHs ⟨4, none⟩ [(.asg 5 (.ors [5, 2, 1])), (.asg 3 (.tup [(.cst (.str [110, 111])), (.isx 3), (.isx 4), (.var 5)]))] [some h, some t, some k, some .non, none, none] = .ok [some h, some t, some k, some noT, none, some (.bl false)] := rfl
theorem told26 (k W : Nat) {la : List Nat} {L : List (List Nat × List Nat)} {S : List Sh} (h : HsO la L S) (old : List Nat) {new : List Nat} (hk : new ∈ keyA) :
    run TF W (k + 4) 133 [hsD la L S, .str old, .str new] = .ok (if hasK S old then (if hasK S new then noT else hsD la L (mvS S old new)) else noK) := by
  rw [run_eq (fn := f_law_told_v6) rfl rfl]
  have e := moved_spec k W h old hk
  have h1 := hnd26a (hsD la L S) (.str old) (.str new)
  have h2 := hnd26b (hsD la L S) (.str old) (.str new)
  generalize hsD la L (mvS S old new) = H2 at *
  generalize hsD la L S = HH at *
  cases q1 : hasK S old with
  | false => rw [q1] at e; simp at e; simp [f_law_told_v6, tryD, e, h1]
  | true =>
    rw [q1] at e
    cases q2 : hasK S new with
    | true => rw [q2] at e; simp at e; simp [f_law_told_v6, tryD, e, h2]
    | false => rw [q2] at e; simp at e; simp [f_law_told_v6, tryD, e]
theorem hasK_mv {S : List Sh} {old new : List Nat} (h1 : hasK S old = true) (h2 : hasK S new = false) : hasK (mvS S old new) new = true ∧ hasK (mvS S old new) old = false := by
  have hne : ¬ old = new := fun z => by rw [z, h2] at h1; cases h1
  unfold hasK at *
  refine ⟨?_, ?_⟩
  · rw [List.any_eq_true] at h1 ⊢
    obtain ⟨s, hs, e⟩ := h1
    refine ⟨_, List.mem_map.mpr ⟨s, hs, rfl⟩, ?_⟩
    show (lkB (asB (mvBk old new s.2.2)) new).isSome = true
    rw [lkB_asG, lkB_mv, e]
    simpa using e
  · rw [List.any_eq_false]
    intro x hx
    obtain ⟨s, hs, rfl⟩ := List.mem_map.mp hx
    show ¬ (lkB (asB (mvBk old new s.2.2)) old).isSome = true
    rw [lkB_asG, lkB_mv]
    split
    · simp [hne]
    · assumption
theorem mvS_back {la : List Nat} {L : List (List Nat × List Nat)} {S : List Sh} (h : HsO la L S) {old new : List Nat} (h1 : hasK S old = true) (h2 : hasK S new = false) : mvS (mvS S old new) new old = S := by
  have hne : old ≠ new := fun z => by rw [z, h2] at h1; cases h1
  unfold mvS chS
  rw [List.map_map]
  refine (List.map_congr_left fun s hs => ?_).trans (List.map_id S)
  show (s.1, s.2.1, asB (mvBk new old (asB (mvBk old new s.2.2)))) = s
  have : lkB s.2.2 new = none := by
    unfold hasK at h2
    rw [List.any_eq_false] at h2
    simpa using h2 s hs
  rw [mv_back (h.bk s hs) this hne]
def thereL (S : List Sh) : List (List Nat) := S.flatMap fun s => s.2.2.map (·.1)
theorem there_iff (S : List Sh) (key : List Nat) : decide (key ∈ thereL S) = hasK S key := by
  rw [Bool.eq_iff_iff, decide_eq_true_eq]
  unfold thereL hasK
  rw [List.mem_flatMap, List.any_eq_true]
  exact ⟨fun ⟨s, hs, e⟩ => ⟨s, hs, lkB_isS.mpr e⟩, fun ⟨s, hs, e⟩ => ⟨s, hs, lkB_isS.mp e⟩⟩
theorem lc26 (k : Nat) {B : Bk} (hl : B.length ≤ 8) {r0 r1 r2 r3 r4 r5 r6 r7 r8 r9 r10 r11 r12 r13 r15 r16 : Option D} : ev (run TF 1000 k) (.lc [16] (.one 16) (.seq (.blt .sorted (.var 14))) [] (.tup [(.var 16), (.idx (.var 14) (.var 16))])) [r0, r1, r2, r3, r4, r5, r6, r7, r8, r9, r10, r11, r12, r13, some (.dk (bkK B) (bkV B)), r15, r16] = .ok (.lst ((asB B).map bkP)) := by
  rw [ev_lcS]
  simp only [its_seq, ev_blt, ev_var, List.getD_cons_zero, List.getD_cons_succ, ofO_some, ok_bind, sorted_bk hl, seq_lst]
  rw [mapF_of (φ := D.str) (ψ := fun k => bkP (k, (lkB B k).getD [])) fun k hk => by
    have := idx_bk ((sortS_perm _).mem_iff.mp hk)
    simp [elF, this, bkP]]
  simp [asB, List.map_map, Function.comp_def]
theorem lcL26 (k : Nat) {B : Bk} {old : List Nat} {r0 r1 r2 r3 r4 r6 r7 r8 r9 r10 r11 r12 r14 r15 r16 : Option D} : ev (run TF 1000 k) (.lc [15] (.one 15) (.seq (.var 13)) [(.cmp .ne (.idx (.var 15) (.cst (.int 0))) (.var 5))] (.var 15)) [r0, r1, r2, r3, r4, some (.str old), r6, r7, r8, r9, r10, r11, r12, some (.tup (B.map bkP)), r14, r15, r16] = .ok (.lst ((delBk B old).map bkP)) := by
  rw [ev_lcS]
  simp only [its_seq, ev_var, List.getD_cons_zero, List.getD_cons_succ, ofO_some, ok_bind, seq_tup]
  rw [mapF_fil (ψ := bkP) (p := fun p => !decide (p.1 = old)) fun p _ => by
    by_cases h : p.1 = old <;> simp [elF, bkP, eat0, h]]
  rfl
theorem lcN26 (k : Nat) {B : Bk} {r0 r1 r2 r3 r4 r5 r6 r7 r8 r9 r10 r11 r12 r14 r15 r16 : Option D} : ev (run TF 1000 k) (.lc [15] (.one 15) (.seq (.var 13)) [] (.idx (.var 15) (.cst (.int 0)))) [r0, r1, r2, r3, r4, r5, r6, r7, r8, r9, r10, r11, r12, some (.tup (B.map bkP)), r14, r15, r16] = .ok (.lst ((B.map (·.1)).map .str)) := by
  rw [ev_lcS]
  simp only [its_seq, ev_var, List.getD_cons_zero, List.getD_cons_succ, ofO_some, ok_bind, seq_tup]
  rw [mapF_of (ψ := fun p : List Nat × List D => D.str p.1) fun p _ => by
    simp [elF, bkP, eat0]]
  simp [List.map_map, Function.comp_def]
theorem hsO_len {la : List Nat} {L : List (List Nat × List Nat)} {S : List Sh} (h : HsO la L S) : S.length ≤ 11 := by
  have := nodup_len h.nd (U := tagl) fun k hk => by obtain ⟨s, hs, rfl⟩ := List.mem_map.mp hk; exact h.ts s hs
  simpa [tagl] using this
def lsS (S : List Sh) (old : List Nat) : List Sh := chS S fun _ B => delBk B old
theorem loop26a (k : Nat) {la : List Nat} {L : List (List Nat × List Nat)} {S : List Sh} (h : HsO la L S) (old : List Nat) {new : List Nat} (hk : new ∈ keyA) {r0 r1 r2 r3 r4 r9 r10 r11 r12 r13 r14 r15 r16 : Option D} :
    ∃ r11' r12' r13' r14', forF (exs (run TF 1000 k) 1000 [7, 8, 9, 14] f_law_k26_b1) (.tup [11, 12, 13]) (S.map shD) [r0, r1, r2, r3, r4, some (.str old), some (.str new), some (.lst []), some (.lst []), r9, r10, r11, r12, r13, r14, r15, r16] = .ok (.nx [r0, r1, r2, r3, r4, some (.str old), some (.str new), some (.lst ((mvS S old new).map shD)), some (.lst ((lsS S old).map shD)), r9, r10, r11', r12', r13', r14', r15, r16]) := by
  obtain ⟨ρ', e, r11', r12', r13', r14', hρ⟩ := forF_acc (φ := shD) (bd := exs (run TF 1000 k) 1000 [7, 8, 9, 14] f_law_k26_b1) (tg := .tup [11, 12, 13]) (l0 := S) (I := fun done ρ => ∃ r11 r12 r13 r14, ρ = [r0, r1, r2, r3, r4, some (.str old), some (.str new), some (.lst ((mvS done old new).map shD)), some (.lst ((lsS done old).map shD)), r9, r10, r11, r12, r13, r14, r15, r16]) (fun done s rest ρ hd ⟨r11, r12, r13, r14, e⟩ => by
    subst e
    have hs : s ∈ S := by rw [hd]; simp
    have hb := h.bk s hs
    have hll : ((mvS done old new).map shD).length < LIM ∧ ((lsS done old).map shD).length < LIM := by
      have : done.length ≤ S.length := by rw [hd]; simp
      simp only [List.length_map, mvS, lsS, chS]
      have := Nat.lt_of_le_of_lt (Nat.le_trans this (hsO_len h)) (show 11 < LIM by decide)
      exact ⟨this, this⟩
    have eu : (mvS (done ++ [s]) old new).map shD = (mvS done old new).map shD ++ [shD (s.1, s.2.1, asB (mvBk old new s.2.2))] := by
      simp [mvS, chS]
    have ed : (lsS (done ++ [s]) old).map shD = (lsS done old).map shD ++ [shD (s.1, s.2.1, delBk s.2.2 old)] := by
      simp [lsS, chS, asB_id (delBk_ok hb old)]
    rw [eu, ed]
    have e3 := dict_bk hb.nd
    have hl8 := nd_len hb.nd hb.kl
    refine ⟨_, ?_, some (.str s.1), some s.2.1, some (.tup (s.2.2.map bkP)), some (.dk (bkK (mvBk old new s.2.2)) (bkV (mvBk old new s.2.2))), rfl⟩
    obtain ⟨l1, l2⟩ := hll
    generalize (mvS done old new).map shD = DD at *
    generalize (lsS done old).map shD = LL at *
    have e6 := lc26 k (B := mvBk old new s.2.2) (mv_ok hb old hk).2.1 (r0 := r0) (r1 := r1) (r2 := r2) (r3 := r3) (r4 := r4) (r5 := some (.str old)) (r6 := some (.str new)) (r7 := some (.lst DD)) (r8 := some (.lst (LL ++ [shD (s.1, s.2.1, delBk s.2.2 old)]))) (r9 := r9) (r10 := r10) (r11 := some (.str s.1)) (r12 := some s.2.1) (r13 := some (.tup (s.2.2.map bkP))) (r15 := r15) (r16 := r16)
    have e7 := lcL26 k (B := s.2.2) (old := old) (r0 := r0) (r1 := r1) (r2 := r2) (r3 := r3) (r4 := r4) (r6 := some (.str new)) (r7 := some (.lst DD)) (r8 := some (.lst LL)) (r9 := r9) (r10 := r10) (r11 := some (.str s.1)) (r12 := some s.2.1) (r14 := r14) (r15 := r15) (r16 := r16)
    cases hg : lkB s.2.2 old with
    | some g =>
      have em := ex_mvk (run TF 1000 k) 1000 [7, 8, 9, 14] (i := 14) (k1 := .var 6) (k2 := .var 5) (ρ := [r0, r1, r2, r3, r4, some (.str old), some (.str new), some (.lst DD), some (.lst (LL ++ [shD (s.1, s.2.1, delBk s.2.2 old)])), r9, r10, some (.str s.1), some s.2.1, some (.tup (s.2.2.map bkP)), some (.dk (bkK s.2.2) (bkV s.2.2)), r15, r16]) rfl rfl rfl hg hl8
      unfold shD at e6 em ⊢
      dsimp only at e6 em ⊢
      simp [f_law_k26_b1, e3, -ev_lcS, -dict_tup, e6, e7, em, l1, l2, look_bk, hg]
    | none =>
      have em : mvBk old new s.2.2 = s.2.2 := by unfold mvBk; rw [hg]; rfl
      rw [em] at e6 ⊢
      unfold shD at e6 ⊢
      dsimp only at e6 ⊢
      simp [f_law_k26_b1, e3, -ev_lcS, -dict_tup, e6, e7, l1, l2, look_bk, hg]) (l := S) (done := []) (ρ := [r0, r1, r2, r3, r4, some (.str old), some (.str new), some (.lst []), some (.lst []), r9, r10, r11, r12, r13, r14, r15, r16]) rfl ⟨r11, r12, r13, r14, rfl⟩
  exact ⟨r11', r12', r13', r14', by rw [e, hρ]⟩
theorem ne_selfD {d : D} (hp : d.pure = true) (hd : d.depth ≤ 64) : cmD .ne d d = .ok false := by
  have f1 := pure_flatG _ hp
  have e : eqOk d d = true := by
    simp only [eqOk, f1, Bool.and_self, Bool.true_and, decide_eq_true_eq, Bool.and_eq_true]
    omega
  cases d with
  | tup xs => simp only [cmD, e, if_true, eq_selfG _ hp, Bool.not_true]
  | non => rfl
  | bl b => simp [cmD, e, eq_selfG _ hp]
  | int b => simp [cmD, e, eq_selfG _ hp]
  | str b => simp [cmD, e, eq_selfG _ hp]
  | _ => cases hp
theorem loop26b (k : Nat) {la : List Nat} {L : List (List Nat × List Nat)} {S : List Sh} (h : HsO la L S) {r0 r1 r2 r3 r4 r5 r6 r7 r8 r10 r11 r12 r13 r14 r15 r16 : Option D} :
    ∃ r11' r12' r13', forF (exs (run TF 1000 k) 1000 [7, 8, 9, 14] f_law_k26_b2) (.tup [11, 12, 13]) (S.map shD) [r0, r1, r2, r3, r4, r5, r6, r7, r8, some (.lst []), r10, r11, r12, r13, r14, r15, r16] = .ok (.nx [r0, r1, r2, r3, r4, r5, r6, r7, r8, some (.lst ((thereL S).map .str)), r10, r11', r12', r13', r14, r15, r16]) := by
  obtain ⟨ρ', e, ⟨r11', r12', r13', hρ⟩, _⟩ := forF_acc (φ := shD) (bd := exs (run TF 1000 k) 1000 [7, 8, 9, 14] f_law_k26_b2) (tg := .tup [11, 12, 13]) (l0 := S) (I := fun done ρ => (∃ r11 r12 r13, ρ = [r0, r1, r2, r3, r4, r5, r6, r7, r8, some (.lst ((thereL done).map .str)), r10, r11, r12, r13, r14, r15, r16]) ∧ (thereL done).length ≤ 8 * done.length) (fun done s rest ρ hd ⟨⟨r11, r12, r13, e⟩, hl⟩ => by
    subst e
    have hs : s ∈ S := by rw [hd]; simp
    have hb := h.bk s hs
    have hl8 := nd_len hb.nd hb.kl
    have hdl : done.length + 1 ≤ 11 := by
      have h1 := hsO_len h
      rw [hd] at h1; simp only [List.length_append, List.length_cons] at h1; omega
    have eu : thereL (done ++ [s]) = thereL done ++ s.2.2.map (·.1) := by simp [thereL]
    have el : (thereL (done ++ [s])).length ≤ 8 * (done ++ [s]).length := by
      rw [eu]; simp only [List.length_append, List.length_map, List.length_cons, List.length_nil]; omega
    refine ⟨_, ?_, ⟨some (.str s.1), some s.2.1, some (.tup (s.2.2.map bkP)), rfl⟩, el⟩
    rw [eu]
    have e7 := lcN26 k (B := s.2.2) (r0 := r0) (r1 := r1) (r2 := r2) (r3 := r3) (r4 := r4) (r5 := r5) (r6 := r6) (r7 := r7) (r8 := r8) (r9 := some (.lst ((thereL done).map .str))) (r10 := r10) (r11 := some (.str s.1)) (r12 := some s.2.1) (r14 := r14) (r15 := r15) (r16 := r16)
    have hL : ((thereL done).map D.str).length + ((s.2.2.map (·.1)).map D.str).length ≤ LIM := by
      simp only [List.length_map]
      exact Nat.le_trans (show _ ≤ 100 by omega) (by decide)
    rw [List.map_append]
    generalize (thereL done).map D.str = DD at *
    generalize (s.2.2.map (·.1)).map D.str = LL at *
    simp [f_law_k26_b2, shD, -ev_lcS, e7, hL]) (l := S) (done := []) (ρ := [r0, r1, r2, r3, r4, r5, r6, r7, r8, some (.lst []), r10, r11, r12, r13, r14, r15, r16]) rfl ⟨⟨r11, r12, r13, rfl⟩, by simp [thereL]⟩
  exact ⟨r11', r12', r13', by rw [e, hρ]⟩
def key7 : List (List Nat) := [[97], [98, 46, 99], [107, 101, 121], [108, 111, 110, 103, 46, 107, 101, 121], [122], [110, 101, 119], [109]]
theorem key7_sub : ∀ k ∈ key7, k ∈ keyA := by decide
def Fr26 (ns : List Int) (ρ : Rho) : Prop := ∃ r2 r3 r4 r5 r6 r7 r8 r9 r10 r11 r12 r13 r14 r15 r16, ρ = [some (.scr ns), some (.tup (key7.map .str)), r2, r3, r4, r5, r6, r7, r8, r9, r10, r11, r12, r13, r14, r15, r16]
theorem body26 (k : Nat) {ns : List Int} {i : Int} (hi : 0 ≤ i) {ρ : Rho} (h : Fr26 ns ρ) : ∃ ρ', (bindT (.one 2) (.int i) ρ >>= exs (run TF 1000 (k + 16)) 1000 [7, 8, 9, 14] f_law_k26_b3) = .ok (.nx ρ') ∧ Fr26 ns ρ' := by
  obtain ⟨r2, r3, r4, r5, r6, r7, r8, r9, r10, r11, r12, r13, r14, r15, r16, rfl⟩ := h
  have s3 : small (3 : Int) = true := by decide
  obtain ⟨v, hc⟩ : ∃ v, run TF 1000 (k + 16) 1 [.scr ns, .int i] = .ok (.int v) := ⟨_, cell_spec (k + 15) 1000 ns i hi⟩
  obtain ⟨la, L, S, eH, hH⟩ := house_spec (k + 9) 1000 1 (v + 3 * i)
  have eH' : run TF 1000 (k + 16) 103 [.int (v + 3 * i), .int 1] = .ok (hsD la L S) := eH
  have h := hsO_of hH
  have x1 := mix_spec (k + 15) 1000 (v + 3 * i) 9623 7 (by omega) (by omega) (by omega)
  obtain ⟨old, ho, eo⟩ := atTup (l := key7) (mixZ_nn (v + 3 * i) 9623 7 (by omega)) (mixZ_lt (v + 3 * i) 9623 7 (by omega))
  generalize mixZ (v + 3 * i) 9623 7 = w1 at *
  have x2 := mix_spec (k + 15) 1000 (v + 3 * i) 9619 7 (by omega) (by omega) (by omega)
  obtain ⟨new, hn, en⟩ := atTup (l := key7) (mixZ_nn (v + 3 * i) 9619 7 (by omega)) (mixZ_lt (v + 3 * i) 9619 7 (by omega))
  generalize mixZ (v + 3 * i) 9619 7 = w2 at *
  have hko := key7_sub old ho
  have hkn := key7_sub new hn
  have a2 := hs_ix2 la L S
  obtain ⟨q11, q12, q13, q14, eF⟩ := loop26a (k + 16) h old hkn (r0 := some (.scr ns)) (r1 := some (.tup (key7.map .str))) (r2 := some (.int i)) (r3 := some (.int (v + 3 * i))) (r4 := some (hsD la L S)) (r9 := r9) (r10 := r10) (r11 := r11) (r12 := r12) (r13 := r13) (r14 := r14) (r15 := r15) (r16 := r16)
  obtain ⟨t11, t12, t13, eG⟩ := loop26b (k + 16) h (r0 := some (.scr ns)) (r1 := some (.tup (key7.map .str))) (r2 := some (.int i)) (r3 := some (.int (v + 3 * i))) (r4 := some (hsD la L S)) (r5 := some (.str old)) (r6 := some (.str new)) (r7 := some (.lst ((mvS S old new).map shD))) (r8 := some (.lst ((lsS S old).map shD))) (r10 := r10) (r11 := q11) (r12 := q12) (r13 := q13) (r14 := q14) (r15 := r15) (r16 := r16)
  have l3 : 3 ≤ LIM := by decide
  have as : sliD (hsD la L S) none (some 2) = .ok (.tup [.str la, .tup (L.map pairD)]) := by unfold hsD; rfl
  have b1 : run TF 1000 (k + 16) 130 [hsD la L S, .str old] = .ok (hsD la L (lsS S old)) := wo_spec (k + 13) 1000 h old
  have c1 : D.tup [.str la, .tup (L.map pairD), .tup ((lsS S old).map shD)] = hsD la L (lsS S old) := rfl
  have c2 : D.tup [.str la, .tup (L.map pairD), .tup ((mvS S old new).map shD)] = hsD la L (mvS S old new) := rfl
  have d1 : bltD .tuple (.lst ((lsS S old).map shD)) = .ok (.tup ((lsS S old).map shD)) := rfl
  have d2 : bltD .tuple (.lst ((mvS S old new).map shD)) = .ok (.tup ((mvS S old new).map shD)) := rfl
  have hls : HsO la L (lsS S old) := hsO_ch h fun s hs => by rw [asB_id (delBk_ok (h.bk s hs) old)]; exact delBk_ok (h.bk s hs) old
  have e8 : run TF 1000 (k + 16) 8 [hsD la L (lsS S old), hsD la L (lsS S old)] = .ok (.bl true) := same_refl 1000 14 _ (hs_pd hls).1 (hs_pd hls).2 (k + 1)
  have h2 := mvS_ok h old hkn
  have e8' : run TF 1000 (k + 16) 8 [hsD la L (mvS S old new), hsD la L (mvS S old new)] = .ok (.bl true) := same_refl 1000 14 _ (hs_pd h2).1 (hs_pd h2).2 (k + 1)
  have et : run TF 1000 (k + 16) 133 [hsD la L S, .str old, .str new] = _ := told26 (k + 12) 1000 h old hkn
  have i1 := in_strs old (thereL S)
  have i2 := in_strs new (thereL S)
  rw [there_iff] at i1 i2
  have ne1 : cmD .ne (hsD la L S) (hsD la L S) = .ok false := ne_selfD (hs_pd h).1 (Nat.le_trans (hs_pd h).2 (by decide))
  have nk : cmD .ne noK noK = .ok false := rfl
  have nt : cmD .ne noT noT = .ok false := rfl
  have em : hasK S old = true → hasK S new = false → run TF 1000 (k + 16) 132 [hsD la L (mvS S old new), .str new, .str old] = .ok (hsD la L S) := fun a b => by
    have := moved_spec (k + 13) 1000 h2 new hko
    obtain ⟨g1, g2⟩ := hasK_mv a b
    rw [g1, g2, mvS_back h a b] at this
    simpa using this
  generalize (lsS S old).map shD = LS at *
  generalize (mvS S old new).map shD = MS at *
  generalize hsD la L (lsS S old) = HL at *
  generalize hsD la L (mvS S old new) = HM at *
  generalize hsD la L S = HH at *
  generalize (thereL S).map D.str = TT at *
  generalize S.map shD = SS at *
  generalize L.map pairD = LP at *
  generalize hKK : key7.map D.str = KK at *
  cases q1 : hasK S old with
  | false =>
    rw [q1] at i1 et
    simp only [if_false, Bool.false_eq_true] at et
    have i1' := nin_eq i1
    refine ⟨_, ?_, some (.int i), some (.int (v + 3 * i)), some HH, some (.str old), some (.str new), some (.lst MS), some (.lst LS), some (.lst TT), some noK, t11, t12, t13, q14, r15, r16, rfl⟩
    unfold noK at *
    simp [f_law_k26_b3, hKK, s3, hc, eH', x1, eo, x2, en, a2, eF, as, b1, d1, l3, c1, e8, eG, et, i1', nk]
  | true =>
    rw [q1] at i1 et
    have i1' := nin_eq i1
    cases q2 : hasK S new with
    | true =>
      rw [q2] at i2 et
      simp only [if_true] at et
      refine ⟨_, ?_, some (.int i), some (.int (v + 3 * i)), some HH, some (.str old), some (.str new), some (.lst MS), some (.lst LS), some (.lst TT), some noT, t11, t12, t13, q14, r15, r16, rfl⟩
      unfold noT at *
      simp [f_law_k26_b3, hKK, s3, hc, eH', x1, eo, x2, en, a2, eF, as, b1, d1, l3, c1, e8, eG, et, i1', i2, nt]
    | false =>
      rw [q2] at i2 et
      simp only [if_true, if_false, Bool.false_eq_true] at et
      have em' := em q1 q2
      refine ⟨_, ?_, some (.int i), some (.int (v + 3 * i)), some HH, some (.str old), some (.str new), some (.lst MS), some (.lst LS), some (.lst TT), some HM, t11, t12, t13, q14, r15, r16, rfl⟩
      simp [f_law_k26_b3, hKK, s3, hc, eH', x1, eo, x2, en, a2, eF, as, b1, d1, d2, l3, c1, c2, e8, e8', eG, et, i1', i2, em', ne1]
theorem law_plain (k : Nat) (ns : List Int) : run TF 1000 (k + 17) 134 [.scr ns] = .ok (.bl true) := by
  rw [run_eq (fn := f_law_k26) rfl rfl]
  obtain ⟨ρ', e, hρ⟩ := forF_inv (bd := exs (run TF 1000 (k + 16)) 1000 [7, 8, 9, 14] f_law_k26_b3) (tg := .one 2) (ds := rngF 0 8) (I := Fr26 ns) (ρ := [some (.scr ns), some (.tup (key7.map .str)), none, none, none, none, none, none, none, none, none, none, none, none, none, none, none]) ⟨_, _, _, _, _, _, _, _, _, _, _, _, _, _, _, rfl⟩ (fun d hd ρ hρ => by
    obtain ⟨j, rfl, h0, _⟩ := rng_mem _ _ hd
    exact body26 k h0 hρ)
  obtain ⟨r2, r3, r4, r5, r6, r7, r8, r9, r10, r11, r12, r13, r14, r15, r16, rfl⟩ := hρ
  have er : rngD (.int 0) (.int 8) = .ok (rngF 0 8) := rfl
  simp only [key7, List.map_cons, List.map_nil] at e
  simp [f_law_k26, -rng_int, er, e]
theorem law_all (ns : List Int) : run TF 1000 40 134 [.scr ns] = .ok (.bl true) := law_plain 23 ns

end
section
open PySem PySem.Spec L2
def T0 : Tb where
  fn := fun i => match i with
    | 125 => some f_as_book
    | 126 => some f_with_books
    | 130 => some f_without_key
    | 131 => some f_has_key
    | 132 => some f_moved
    | 1 => some f_law_cell
    | 2 => some f_law_mix
    | 8 => some f_law_same
    | 3 => some f_law_tags
    | 9 => some f_law_tag
    | 14 => some f_law_some_tags
    | 10 => some f_law_links
    | 27 => some f_law_text
    | 28 => some f_law_name
    | 29 => some f_law_cases
    | 30 => some f_law_message
    | 55 => some f_law_test
    | 56 => some f_law_rules
    | 102 => some f_law_book
    | 103 => some f_law_house
    | 133 => some f_law_told_v6
    | 134 => some f_law_k26
    | _ => none
  bl := ["all", "any", "bool", "dict", "enumerate", "int", "isinstance", "len", "list", "min", "range", "set", "sorted", "str", "tuple", "zip"]
  gl := []
  xr := [3, 4]
  xn := [1, 2, 3, 4, 5]
  ev := fun i => if i = 4000000 then some f_without_key_l0 else if i = 4000001 then some f_moved_l0 else (match i with
    | 125 => some f_as_book
    | 126 => some f_with_books
    | 130 => some f_without_key
    | 131 => some f_has_key
    | 132 => some f_moved
    | 1 => some f_law_cell
    | 2 => some f_law_mix
    | 8 => some f_law_same
    | 3 => some f_law_tags
    | 9 => some f_law_tag
    | 14 => some f_law_some_tags
    | 10 => some f_law_links
    | 27 => some f_law_text
    | 28 => some f_law_name
    | 29 => some f_law_cases
    | 30 => some f_law_message
    | 55 => some f_law_test
    | 56 => some f_law_rules
    | 102 => some f_law_book
    | 103 => some f_law_house
    | 133 => some f_law_told_v6
    | 134 => some f_law_k26
    | _ => none)
  cli := fun i => if i = 0 then (2, ["key"]) else if i = 1 then (2, ["old", "new"]) else (0, [])
def T : Tb := { T0 with chl := chlOf T0, chd := chdOf T0 }

def topS (i : Nat) : Stmt := PySem.Challenge.pw_manytongues_k26_keys_that_go_and_move.main.body.getD i (.Pass ⟨0, 0, 0, 0⟩)
theorem sc_f_as_book : FnScope (fnN f_as_book) (fnP f_as_book) (defScope (topS 8)) := ⟨rfl, rfl, rfl, by decide +kernel, by decide +kernel, by decide +kernel, by decide +kernel⟩
theorem q_f_as_book : chkD T f_as_book (topS 8) = true := by decide +kernel
theorem sc_f_with_books : FnScope (fnN f_with_books) (fnP f_with_books) (defScope (topS 9)) := ⟨rfl, rfl, rfl, by decide +kernel, by decide +kernel, by decide +kernel, by decide +kernel⟩
theorem q_f_with_books : chkD T f_with_books (topS 9) = true := by decide +kernel
theorem sc_f_without_key : FnScope (fnN f_without_key) (fnP f_without_key) (defScope (topS 10)) := ⟨rfl, rfl, rfl, by decide +kernel, by decide +kernel, by decide +kernel, by decide +kernel⟩
theorem q_f_without_key : chkD T f_without_key (topS 10) = true := by decide +kernel
theorem sc_f_has_key : FnScope (fnN f_has_key) (fnP f_has_key) (defScope (topS 11)) := ⟨rfl, rfl, rfl, by decide +kernel, by decide +kernel, by decide +kernel, by decide +kernel⟩
theorem q_f_has_key : chkD T f_has_key (topS 11) = true := by decide +kernel
theorem sc_f_moved : FnScope (fnN f_moved) (fnP f_moved) (defScope (topS 12)) := ⟨rfl, rfl, rfl, by decide +kernel, by decide +kernel, by decide +kernel, by decide +kernel⟩
theorem q_f_moved : chkD T f_moved (topS 12) = true := by decide +kernel
theorem sc_f_law_cell : FnScope (fnN f_law_cell) (fnP f_law_cell) (defScope (topS 14)) := ⟨rfl, rfl, rfl, by decide +kernel, by decide +kernel, by decide +kernel, by decide +kernel⟩
theorem q_f_law_cell : chkD T f_law_cell (topS 14) = true := by decide +kernel
theorem sc_f_law_mix : FnScope (fnN f_law_mix) (fnP f_law_mix) (defScope (topS 15)) := ⟨rfl, rfl, rfl, by decide +kernel, by decide +kernel, by decide +kernel, by decide +kernel⟩
theorem q_f_law_mix : chkD T f_law_mix (topS 15) = true := by decide +kernel
theorem sc_f_law_same : FnScope (fnN f_law_same) (fnP f_law_same) (defScope (topS 16)) := ⟨rfl, rfl, rfl, by decide +kernel, by decide +kernel, by decide +kernel, by decide +kernel⟩
theorem q_f_law_same : chkD T f_law_same (topS 16) = true := by decide +kernel
theorem sc_f_law_tags : FnScope (fnN f_law_tags) (fnP f_law_tags) (defScope (topS 17)) := ⟨rfl, rfl, rfl, by decide +kernel, by decide +kernel, by decide +kernel, by decide +kernel⟩
theorem q_f_law_tags : chkD T f_law_tags (topS 17) = true := by decide +kernel
theorem sc_f_law_tag : FnScope (fnN f_law_tag) (fnP f_law_tag) (defScope (topS 18)) := ⟨rfl, rfl, rfl, by decide +kernel, by decide +kernel, by decide +kernel, by decide +kernel⟩
theorem q_f_law_tag : chkD T f_law_tag (topS 18) = true := by decide +kernel
theorem sc_f_law_some_tags : FnScope (fnN f_law_some_tags) (fnP f_law_some_tags) (defScope (topS 19)) := ⟨rfl, rfl, rfl, by decide +kernel, by decide +kernel, by decide +kernel, by decide +kernel⟩
theorem q_f_law_some_tags : chkD T f_law_some_tags (topS 19) = true := by decide +kernel
theorem sc_f_law_links : FnScope (fnN f_law_links) (fnP f_law_links) (defScope (topS 20)) := ⟨rfl, rfl, rfl, by decide +kernel, by decide +kernel, by decide +kernel, by decide +kernel⟩
theorem q_f_law_links : chkD T f_law_links (topS 20) = true := by decide +kernel
theorem sc_f_law_text : FnScope (fnN f_law_text) (fnP f_law_text) (defScope (topS 21)) := ⟨rfl, rfl, rfl, by decide +kernel, by decide +kernel, by decide +kernel, by decide +kernel⟩
theorem q_f_law_text : chkD T f_law_text (topS 21) = true := by decide +kernel
theorem sc_f_law_name : FnScope (fnN f_law_name) (fnP f_law_name) (defScope (topS 22)) := ⟨rfl, rfl, rfl, by decide +kernel, by decide +kernel, by decide +kernel, by decide +kernel⟩
theorem q_f_law_name : chkD T f_law_name (topS 22) = true := by decide +kernel
theorem sc_f_law_cases : FnScope (fnN f_law_cases) (fnP f_law_cases) (defScope (topS 23)) := ⟨rfl, rfl, rfl, by decide +kernel, by decide +kernel, by decide +kernel, by decide +kernel⟩
theorem q_f_law_cases : chkD T f_law_cases (topS 23) = true := by decide +kernel
theorem sc_f_law_message : FnScope (fnN f_law_message) (fnP f_law_message) (defScope (topS 24)) := ⟨rfl, rfl, rfl, by decide +kernel, by decide +kernel, by decide +kernel, by decide +kernel⟩
theorem q_f_law_message : chkD T f_law_message (topS 24) = true := by decide +kernel
theorem sc_f_law_test : FnScope (fnN f_law_test) (fnP f_law_test) (defScope (topS 25)) := ⟨rfl, rfl, rfl, by decide +kernel, by decide +kernel, by decide +kernel, by decide +kernel⟩
theorem q_f_law_test : chkD T f_law_test (topS 25) = true := by decide +kernel
theorem sc_f_law_rules : FnScope (fnN f_law_rules) (fnP f_law_rules) (defScope (topS 26)) := ⟨rfl, rfl, rfl, by decide +kernel, by decide +kernel, by decide +kernel, by decide +kernel⟩
theorem q_f_law_rules : chkD T f_law_rules (topS 26) = true := by decide +kernel
theorem sc_f_law_book : FnScope (fnN f_law_book) (fnP f_law_book) (defScope (topS 27)) := ⟨rfl, rfl, rfl, by decide +kernel, by decide +kernel, by decide +kernel, by decide +kernel⟩
theorem q_f_law_book : chkD T f_law_book (topS 27) = true := by decide +kernel
theorem sc_f_law_house : FnScope (fnN f_law_house) (fnP f_law_house) (defScope (topS 28)) := ⟨rfl, rfl, rfl, by decide +kernel, by decide +kernel, by decide +kernel, by decide +kernel⟩
theorem q_f_law_house : chkD T f_law_house (topS 28) = true := by decide +kernel
theorem sc_f_law_told_v6 : FnScope (fnN f_law_told_v6) (fnP f_law_told_v6) (defScope (topS 29)) := ⟨rfl, rfl, rfl, by decide +kernel, by decide +kernel, by decide +kernel, by decide +kernel⟩
theorem q_f_law_told_v6 : chkD T f_law_told_v6 (topS 29) = true := by decide +kernel
theorem sc_f_law_k26 : FnScope (fnN f_law_k26) (fnP f_law_k26) (defScope (topS 30)) := ⟨rfl, rfl, rfl, by decide +kernel, by decide +kernel, by decide +kernel, by decide +kernel⟩
theorem q_f_law_k26 : chkD T f_law_k26 (topS 30) = true := by decide +kernel

theorem T_fn : T.ev = TF := rfl
theorem pure_law : ∀ ns : List Int, ns.length ≤ 63 → run T.ev 1000 40 134 [.scr ns] = .ok (.bl true) := fun ns h => by rw [T_fn]; exact law_all ns
theorem all_mk {l : PySem.W.OpenLaw} {w : World} {K : PySem.W.Frag} {h : Heap} {mg : Str → Option Value} {fa : Addr} (X : K.In h) (G : h.Ns mainGlobals mg) (hfa : mg "law" = some (.ref fa))
    {f0 : Addr} {od0 an0 : Option Addr} {sl0 : Array (Option Value)} {oc0 kV0 dc0 pm0 cd0 ct0 : Value}
    {f1 : Addr} {od1 an1 : Option Addr} {sl1 : Array (Option Value)} {oc1 kV1 dc1 pm1 cd1 ct1 : Value}
    {f2 : Addr} {od2 an2 : Option Addr} {sl2 : Array (Option Value)} {oc2 kV2 dc2 pm2 cd2 ct2 : Value}
    {f3 : Addr} {od3 an3 : Option Addr} {sl3 : Array (Option Value)} {oc3 kV3 dc3 pm3 cd3 ct3 : Value}
    {f4 : Addr} {od4 an4 : Option Addr} {sl4 : Array (Option Value)} {oc4 kV4 dc4 pm4 cd4 ct4 : Value}
    {f5 : Addr} {od5 an5 : Option Addr} {sl5 : Array (Option Value)} {oc5 kV5 dc5 pm5 cd5 ct5 : Value}
    {f6 : Addr} {od6 an6 : Option Addr} {sl6 : Array (Option Value)} {oc6 kV6 dc6 pm6 cd6 ct6 : Value}
    {f7 : Addr} {od7 an7 : Option Addr} {sl7 : Array (Option Value)} {oc7 kV7 dc7 pm7 cd7 ct7 : Value}
    {f8 : Addr} {od8 an8 : Option Addr} {sl8 : Array (Option Value)} {oc8 kV8 dc8 pm8 cd8 ct8 : Value}
    {f9 : Addr} {od9 an9 : Option Addr} {sl9 : Array (Option Value)} {oc9 kV9 dc9 pm9 cd9 ct9 : Value}
    {f10 : Addr} {od10 an10 : Option Addr} {sl10 : Array (Option Value)} {oc10 kV10 dc10 pm10 cd10 ct10 : Value}
    {f11 : Addr} {od11 an11 : Option Addr} {sl11 : Array (Option Value)} {oc11 kV11 dc11 pm11 cd11 ct11 : Value}
    {f12 : Addr} {od12 an12 : Option Addr} {sl12 : Array (Option Value)} {oc12 kV12 dc12 pm12 cd12 ct12 : Value}
    {f13 : Addr} {od13 an13 : Option Addr} {sl13 : Array (Option Value)} {oc13 kV13 dc13 pm13 cd13 ct13 : Value}
    {f14 : Addr} {od14 an14 : Option Addr} {sl14 : Array (Option Value)} {oc14 kV14 dc14 pm14 cd14 ct14 : Value}
    {f15 : Addr} {od15 an15 : Option Addr} {sl15 : Array (Option Value)} {oc15 kV15 dc15 pm15 cd15 ct15 : Value}
    {f16 : Addr} {od16 an16 : Option Addr} {sl16 : Array (Option Value)} {oc16 kV16 dc16 pm16 cd16 ct16 : Value}
    {f17 : Addr} {od17 an17 : Option Addr} {sl17 : Array (Option Value)} {oc17 kV17 dc17 pm17 cd17 ct17 : Value}
    {f18 : Addr} {od18 an18 : Option Addr} {sl18 : Array (Option Value)} {oc18 kV18 dc18 pm18 cd18 ct18 : Value}
    {f19 : Addr} {od19 an19 : Option Addr} {sl19 : Array (Option Value)} {oc19 kV19 dc19 pm19 cd19 ct19 : Value}
    {f20 : Addr} {od20 an20 : Option Addr} {sl20 : Array (Option Value)} {oc20 kV20 dc20 pm20 cd20 ct20 : Value}
    {f21 : Addr} {od21 an21 : Option Addr} {sl21 : Array (Option Value)} {oc21 kV21 dc21 pm21 cd21 ct21 : Value}
    {tc2 tp2 : Addr}
    {tc4 tp4 : Addr}
    {cx0 : Addr}
    {cx1 : Addr}
    {cx2 : Addr}
    {cx3 : Addr}
    {cx4 : Addr}
    {cx5 : Addr}
    (a0 : PySem.W.nsIn K mainGlobals "as_book" = some (some (.ref f0))) (l0 : K.lookup f0 = some ⟨oc0, od0, .func (PySem.W.fnOf "as_book" "as_book" (defArgs (topS 8)) (defBody (topS 8)) (defScope (topS 8)) .none kV0 dc0 pm0 an0 cd0 ct0), sl0⟩) (c0 : PySem.W.codeIn K cd0 "as_book" = true) (k0 : PySem.W.keepIn K (.ref f0) = true)
    (a1 : PySem.W.nsIn K mainGlobals "with_books" = some (some (.ref f1))) (l1 : K.lookup f1 = some ⟨oc1, od1, .func (PySem.W.fnOf "with_books" "with_books" (defArgs (topS 9)) (defBody (topS 9)) (defScope (topS 9)) .none kV1 dc1 pm1 an1 cd1 ct1), sl1⟩) (c1 : PySem.W.codeIn K cd1 "with_books" = true) (k1 : PySem.W.keepIn K (.ref f1) = true)
    (a2 : PySem.W.nsIn K mainGlobals "without_key" = some (some (.ref f2))) (l2 : K.lookup f2 = some ⟨oc2, od2, .func (PySem.W.fnOf "without_key" "without_key" (defArgs (topS 10)) (defBody (topS 10)) (defScope (topS 10)) .none kV2 dc2 pm2 an2 cd2 ct2), sl2⟩) (c2 : PySem.W.codeIn K cd2 "without_key" = true) (k2 : PySem.W.keepIn K (.ref f2) = true)
    (a3 : PySem.W.nsIn K mainGlobals "has_key" = some (some (.ref f3))) (l3 : K.lookup f3 = some ⟨oc3, od3, .func (PySem.W.fnOf "has_key" "has_key" (defArgs (topS 11)) (defBody (topS 11)) (defScope (topS 11)) .none kV3 dc3 pm3 an3 cd3 ct3), sl3⟩) (c3 : PySem.W.codeIn K cd3 "has_key" = true) (k3 : PySem.W.keepIn K (.ref f3) = true)
    (a4 : PySem.W.nsIn K mainGlobals "moved" = some (some (.ref f4))) (l4 : K.lookup f4 = some ⟨oc4, od4, .func (PySem.W.fnOf "moved" "moved" (defArgs (topS 12)) (defBody (topS 12)) (defScope (topS 12)) .none kV4 dc4 pm4 an4 cd4 ct4), sl4⟩) (c4 : PySem.W.codeIn K cd4 "moved" = true) (k4 : PySem.W.keepIn K (.ref f4) = true)
    (a5 : PySem.W.nsIn K mainGlobals "_law_cell" = some (some (.ref f5))) (l5 : K.lookup f5 = some ⟨oc5, od5, .func (PySem.W.fnOf "_law_cell" "_law_cell" (defArgs (topS 14)) (defBody (topS 14)) (defScope (topS 14)) .none kV5 dc5 pm5 an5 cd5 ct5), sl5⟩) (c5 : PySem.W.codeIn K cd5 "_law_cell" = true) (k5 : PySem.W.keepIn K (.ref f5) = true)
    (a6 : PySem.W.nsIn K mainGlobals "_law_mix" = some (some (.ref f6))) (l6 : K.lookup f6 = some ⟨oc6, od6, .func (PySem.W.fnOf "_law_mix" "_law_mix" (defArgs (topS 15)) (defBody (topS 15)) (defScope (topS 15)) .none kV6 dc6 pm6 an6 cd6 ct6), sl6⟩) (c6 : PySem.W.codeIn K cd6 "_law_mix" = true) (k6 : PySem.W.keepIn K (.ref f6) = true)
    (a7 : PySem.W.nsIn K mainGlobals "_law_same" = some (some (.ref f7))) (l7 : K.lookup f7 = some ⟨oc7, od7, .func (PySem.W.fnOf "_law_same" "_law_same" (defArgs (topS 16)) (defBody (topS 16)) (defScope (topS 16)) .none kV7 dc7 pm7 an7 cd7 ct7), sl7⟩) (c7 : PySem.W.codeIn K cd7 "_law_same" = true) (k7 : PySem.W.keepIn K (.ref f7) = true)
    (a8 : PySem.W.nsIn K mainGlobals "_law_tags" = some (some (.ref f8))) (l8 : K.lookup f8 = some ⟨oc8, od8, .func (PySem.W.fnOf "_law_tags" "_law_tags" (defArgs (topS 17)) (defBody (topS 17)) (defScope (topS 17)) .none kV8 dc8 pm8 an8 cd8 ct8), sl8⟩) (c8 : PySem.W.codeIn K cd8 "_law_tags" = true) (k8 : PySem.W.keepIn K (.ref f8) = true)
    (a9 : PySem.W.nsIn K mainGlobals "_law_tag" = some (some (.ref f9))) (l9 : K.lookup f9 = some ⟨oc9, od9, .func (PySem.W.fnOf "_law_tag" "_law_tag" (defArgs (topS 18)) (defBody (topS 18)) (defScope (topS 18)) .none kV9 dc9 pm9 an9 cd9 ct9), sl9⟩) (c9 : PySem.W.codeIn K cd9 "_law_tag" = true) (k9 : PySem.W.keepIn K (.ref f9) = true)
    (a10 : PySem.W.nsIn K mainGlobals "_law_some_tags" = some (some (.ref f10))) (l10 : K.lookup f10 = some ⟨oc10, od10, .func (PySem.W.fnOf "_law_some_tags" "_law_some_tags" (defArgs (topS 19)) (defBody (topS 19)) (defScope (topS 19)) .none kV10 dc10 pm10 an10 cd10 ct10), sl10⟩) (c10 : PySem.W.codeIn K cd10 "_law_some_tags" = true) (k10 : PySem.W.keepIn K (.ref f10) = true)
    (a11 : PySem.W.nsIn K mainGlobals "_law_links" = some (some (.ref f11))) (l11 : K.lookup f11 = some ⟨oc11, od11, .func (PySem.W.fnOf "_law_links" "_law_links" (defArgs (topS 20)) (defBody (topS 20)) (defScope (topS 20)) .none kV11 dc11 pm11 an11 cd11 ct11), sl11⟩) (c11 : PySem.W.codeIn K cd11 "_law_links" = true) (k11 : PySem.W.keepIn K (.ref f11) = true)
    (a12 : PySem.W.nsIn K mainGlobals "_law_text" = some (some (.ref f12))) (l12 : K.lookup f12 = some ⟨oc12, od12, .func (PySem.W.fnOf "_law_text" "_law_text" (defArgs (topS 21)) (defBody (topS 21)) (defScope (topS 21)) .none kV12 dc12 pm12 an12 cd12 ct12), sl12⟩) (c12 : PySem.W.codeIn K cd12 "_law_text" = true) (k12 : PySem.W.keepIn K (.ref f12) = true)
    (a13 : PySem.W.nsIn K mainGlobals "_law_name" = some (some (.ref f13))) (l13 : K.lookup f13 = some ⟨oc13, od13, .func (PySem.W.fnOf "_law_name" "_law_name" (defArgs (topS 22)) (defBody (topS 22)) (defScope (topS 22)) .none kV13 dc13 pm13 an13 cd13 ct13), sl13⟩) (c13 : PySem.W.codeIn K cd13 "_law_name" = true) (k13 : PySem.W.keepIn K (.ref f13) = true)
    (a14 : PySem.W.nsIn K mainGlobals "_law_cases" = some (some (.ref f14))) (l14 : K.lookup f14 = some ⟨oc14, od14, .func (PySem.W.fnOf "_law_cases" "_law_cases" (defArgs (topS 23)) (defBody (topS 23)) (defScope (topS 23)) .none kV14 dc14 pm14 an14 cd14 ct14), sl14⟩) (c14 : PySem.W.codeIn K cd14 "_law_cases" = true) (k14 : PySem.W.keepIn K (.ref f14) = true)
    (a15 : PySem.W.nsIn K mainGlobals "_law_message" = some (some (.ref f15))) (l15 : K.lookup f15 = some ⟨oc15, od15, .func (PySem.W.fnOf "_law_message" "_law_message" (defArgs (topS 24)) (defBody (topS 24)) (defScope (topS 24)) .none kV15 dc15 pm15 an15 cd15 ct15), sl15⟩) (c15 : PySem.W.codeIn K cd15 "_law_message" = true) (k15 : PySem.W.keepIn K (.ref f15) = true)
    (a16 : PySem.W.nsIn K mainGlobals "_law_test" = some (some (.ref f16))) (l16 : K.lookup f16 = some ⟨oc16, od16, .func (PySem.W.fnOf "_law_test" "_law_test" (defArgs (topS 25)) (defBody (topS 25)) (defScope (topS 25)) .none kV16 dc16 pm16 an16 cd16 ct16), sl16⟩) (c16 : PySem.W.codeIn K cd16 "_law_test" = true) (k16 : PySem.W.keepIn K (.ref f16) = true)
    (a17 : PySem.W.nsIn K mainGlobals "_law_rules" = some (some (.ref f17))) (l17 : K.lookup f17 = some ⟨oc17, od17, .func (PySem.W.fnOf "_law_rules" "_law_rules" (defArgs (topS 26)) (defBody (topS 26)) (defScope (topS 26)) .none kV17 dc17 pm17 an17 cd17 ct17), sl17⟩) (c17 : PySem.W.codeIn K cd17 "_law_rules" = true) (k17 : PySem.W.keepIn K (.ref f17) = true)
    (a18 : PySem.W.nsIn K mainGlobals "_law_book" = some (some (.ref f18))) (l18 : K.lookup f18 = some ⟨oc18, od18, .func (PySem.W.fnOf "_law_book" "_law_book" (defArgs (topS 27)) (defBody (topS 27)) (defScope (topS 27)) .none kV18 dc18 pm18 an18 cd18 ct18), sl18⟩) (c18 : PySem.W.codeIn K cd18 "_law_book" = true) (k18 : PySem.W.keepIn K (.ref f18) = true)
    (a19 : PySem.W.nsIn K mainGlobals "_law_house" = some (some (.ref f19))) (l19 : K.lookup f19 = some ⟨oc19, od19, .func (PySem.W.fnOf "_law_house" "_law_house" (defArgs (topS 28)) (defBody (topS 28)) (defScope (topS 28)) .none kV19 dc19 pm19 an19 cd19 ct19), sl19⟩) (c19 : PySem.W.codeIn K cd19 "_law_house" = true) (k19 : PySem.W.keepIn K (.ref f19) = true)
    (a20 : PySem.W.nsIn K mainGlobals "_law_told" = some (some (.ref f20))) (l20 : K.lookup f20 = some ⟨oc20, od20, .func (PySem.W.fnOf "_law_told" "_law_told" (defArgs (topS 29)) (defBody (topS 29)) (defScope (topS 29)) .none kV20 dc20 pm20 an20 cd20 ct20), sl20⟩) (c20 : PySem.W.codeIn K cd20 "_law_told" = true) (k20 : PySem.W.keepIn K (.ref f20) = true)
    (a21 : PySem.W.nsIn K mainGlobals "law" = some (some (.ref f21))) (l21 : K.lookup f21 = some ⟨oc21, od21, .func (PySem.W.fnOf "law" "law" (defArgs (topS 30)) (defBody (topS 30)) (defScope (topS 30)) .none kV21 dc21 pm21 an21 cd21 ct21), sl21⟩) (c21 : PySem.W.codeIn K cd21 "law" = true) (k21 : PySem.W.keepIn K (.ref f21) = true)
    (ti2 : PySem.W.tabIn K "without_key" = some (tc2, tp2)) (tr2 : cd2 = .ref tc2) (tn2 : K.lookup tp2 = none) (td2 : PySem.W.CodeHd h tc2 tp2 ∧ h.get? tp2 = some { cls := .none, data := .fields #[] })
    (ti4 : PySem.W.tabIn K "moved" = some (tc4, tp4)) (tr4 : cd4 = .ref tc4) (tn4 : K.lookup tp4 = none) (td4 : PySem.W.CodeHd h tc4 tp4 ∧ h.get? tp4 = some { cls := .none, data := .fields #[] })
    (tu2_4 : tp2 ≠ tp4)
    (z0 : PySem.W.nsIn K mainGlobals "all" = some none)
    (z1 : PySem.W.nsIn K mainGlobals "any" = some none)
    (z2 : PySem.W.nsIn K mainGlobals "bool" = some none)
    (z3 : PySem.W.nsIn K mainGlobals "dict" = some none)
    (z4 : PySem.W.nsIn K mainGlobals "enumerate" = some none)
    (z5 : PySem.W.nsIn K mainGlobals "int" = some none)
    (z6 : PySem.W.nsIn K mainGlobals "isinstance" = some none)
    (z7 : PySem.W.nsIn K mainGlobals "len" = some none)
    (z8 : PySem.W.nsIn K mainGlobals "list" = some none)
    (z9 : PySem.W.nsIn K mainGlobals "min" = some none)
    (z10 : PySem.W.nsIn K mainGlobals "range" = some none)
    (z11 : PySem.W.nsIn K mainGlobals "set" = some none)
    (z12 : PySem.W.nsIn K mainGlobals "sorted" = some none)
    (z13 : PySem.W.nsIn K mainGlobals "str" = some none)
    (z14 : PySem.W.nsIn K mainGlobals "tuple" = some none)
    (z15 : PySem.W.nsIn K mainGlobals "zip" = some none)
    (xn0 : PySem.W.nsIn K mainGlobals "TongueError" = some (some (.ref cx0)))
    (xn1 : PySem.W.nsIn K mainGlobals "NoValue" = some (some (.ref cx1)))
    (xn2 : PySem.W.nsIn K mainGlobals "NoText" = some (some (.ref cx2)))
    (xn3 : PySem.W.nsIn K mainGlobals "NoKey" = some (some (.ref cx3)))
    (xn4 : PySem.W.nsIn K mainGlobals "Taken" = some (some (.ref cx4)))
    (xn5 : PySem.W.nsIn K mainGlobals "NoShelf" = some (some (.ref cx5)))
    (xb0 : PySem.W.subIn K (.ref cx0) (.type "BaseException") = some true)
    (xd0 : PySem.W.hasDictIn K cx0 = true)
    (xt0 : PySem.W.typeIn K (.ref cx0) = some (.type "type"))
    (xcg : PySem.W.specialIn K (.builtin "object.__class__") "__get__" = some (some (.builtin "getset_descriptor.__get__")))
    (xct : PySem.W.takesIn K (.builtin "object.__class__") = some true)
    (xk3 : PySem.W.keepIn K (.ref cx3) = true)
    (xb3 : PySem.W.subIn K (.ref cx3) (.type "BaseException") = some true)
    (xt3 : PySem.W.typeIn K (.ref cx3) = some (.type "type"))
    (xd3 : PySem.W.hasDictIn K cx3 = true)
    (xga3 : PySem.W.findIn K (.ref cx3) "__getattribute__" = some (some (.builtin "BaseException.__getattribute__")))
    (xgg3 : PySem.W.findIn K (.ref cx3) "__getattr__" = some none)
    (xca3 : PySem.W.findIn K (.ref cx3) "__class__" = some (some (.builtin "object.__class__")))
    (xmo3 : PySem.W.mroIn K cx3 (.type "object") = some true)
    (xnn3 : PySem.W.findIn K (.ref cx3) "name" = some none)
    (xs3 : PySem.W.subIn K (.ref cx3) (.ref cx0) = some true)
    (xi3_1 : PySem.W.kitOne K (.ref cx3) (.ref cx1) = some false)
    (xi3_2 : PySem.W.kitOne K (.ref cx3) (.ref cx2) = some false)
    (xi3_3 : PySem.W.kitOne K (.ref cx3) (.ref cx3) = some true)
    (xi3_4 : PySem.W.kitOne K (.ref cx3) (.ref cx4) = some false)
    (xi3_5 : PySem.W.kitOne K (.ref cx3) (.ref cx5) = some false)
    (xo3 : PySem.W.excIn K cx3 [.type "ValueError", .type "Exception", .type "BaseException", .type "object"] "ValueError.__new__" = true)
    (xk4 : PySem.W.keepIn K (.ref cx4) = true)
    (xb4 : PySem.W.subIn K (.ref cx4) (.type "BaseException") = some true)
    (xt4 : PySem.W.typeIn K (.ref cx4) = some (.type "type"))
    (xd4 : PySem.W.hasDictIn K cx4 = true)
    (xga4 : PySem.W.findIn K (.ref cx4) "__getattribute__" = some (some (.builtin "BaseException.__getattribute__")))
    (xgg4 : PySem.W.findIn K (.ref cx4) "__getattr__" = some none)
    (xca4 : PySem.W.findIn K (.ref cx4) "__class__" = some (some (.builtin "object.__class__")))
    (xmo4 : PySem.W.mroIn K cx4 (.type "object") = some true)
    (xnn4 : PySem.W.findIn K (.ref cx4) "name" = some none)
    (xs4 : PySem.W.subIn K (.ref cx4) (.ref cx0) = some true)
    (xi4_1 : PySem.W.kitOne K (.ref cx4) (.ref cx1) = some false)
    (xi4_2 : PySem.W.kitOne K (.ref cx4) (.ref cx2) = some false)
    (xi4_3 : PySem.W.kitOne K (.ref cx4) (.ref cx3) = some false)
    (xi4_4 : PySem.W.kitOne K (.ref cx4) (.ref cx4) = some true)
    (xi4_5 : PySem.W.kitOne K (.ref cx4) (.ref cx5) = some false)
    (xo4 : PySem.W.excIn K cx4 [.type "ValueError", .type "Exception", .type "BaseException", .type "object"] "ValueError.__new__" = true) :
    LamX.LawAtS l w K (L2.CX l.prog w) 40 63 "script" mg fa h := by
  have e := hfa.symm.trans (PySem.W.mg_of X G a21)
  cases e
  subst tr2
  subst tr4
  let csv : List (Addr × Addr) := [(tc2, tp2), (tc4, tp4)]
  let tbv : List (Addr × Str) := [(tp2, lamQ "without_key" (defScope (topS 10)) [99, 104, 97, 110, 103, 101]), (tp4, lamQ "moved" (defScope (topS 12)) [99, 104, 97, 110, 103, 101])]
  have tbv_u2 : ∀ r ∈ tbv, r.1 = tp2 → r.2 = lamQ "without_key" (defScope (topS 10)) [99, 104, 97, 110, 103, 101] := fun r hr er => by
    simp only [tbv, List.mem_cons, List.not_mem_nil, or_false] at hr
    rcases hr with rfl | rfl
    · rfl
    · exact absurd er (Ne.symm tu2_4)
  have tbv_u4 : ∀ r ∈ tbv, r.1 = tp4 → r.2 = lamQ "moved" (defScope (topS 12)) [99, 104, 97, 110, 103, 101] := fun r hr er => by
    simp only [tbv, List.mem_cons, List.not_mem_nil, or_false] at hr
    rcases hr with rfl | rfl
    · exact absurd er (tu2_4)
    · rfl
  have s0 : FnSt T K mg tbv csv f_as_book := mkSt X G (fn := f_as_book) (st := topS 8) (x := "as_book") rfl a0 l0 c0 k0 (fun _ _ _ _ _ _ us hl => match us, hl with | [_], _ => rfl) sc_f_as_book q_f_as_book (fun nm z => nomatch z)
  have s1 : FnSt T K mg tbv csv f_with_books := mkSt X G (fn := f_with_books) (st := topS 9) (x := "with_books") rfl a1 l1 c1 k1 (fun _ _ _ _ _ _ us hl => match us, hl with | [_, _], _ => rfl) sc_f_with_books q_f_with_books (fun nm z => nomatch z)
  have s2 : FnSt T K mg tbv csv f_without_key := mkSt X G (fn := f_without_key) (st := topS 10) (x := "without_key") rfl a2 l2 c2 k2 (fun _ _ _ _ _ _ us hl => match us, hl with | [_, _], _ => rfl) sc_f_without_key q_f_without_key (fun nm z => by cases z; exact ⟨(tc2, tp2), by simp [csv], rfl, by simp [tbv], tbv_u2⟩)
  have s3 : FnSt T K mg tbv csv f_has_key := mkSt X G (fn := f_has_key) (st := topS 11) (x := "has_key") rfl a3 l3 c3 k3 (fun _ _ _ _ _ _ us hl => match us, hl with | [_, _], _ => rfl) sc_f_has_key q_f_has_key (fun nm z => nomatch z)
  have s4 : FnSt T K mg tbv csv f_moved := mkSt X G (fn := f_moved) (st := topS 12) (x := "moved") rfl a4 l4 c4 k4 (fun _ _ _ _ _ _ us hl => match us, hl with | [_, _, _], _ => rfl) sc_f_moved q_f_moved (fun nm z => by cases z; exact ⟨(tc4, tp4), by simp [csv], rfl, by simp [tbv], tbv_u4⟩)
  have s5 : FnSt T K mg tbv csv f_law_cell := mkSt X G (fn := f_law_cell) (st := topS 14) (x := "_law_cell") rfl a5 l5 c5 k5 (fun _ _ _ _ _ _ us hl => match us, hl with | [_, _], _ => rfl) sc_f_law_cell q_f_law_cell (fun nm z => nomatch z)
  have s6 : FnSt T K mg tbv csv f_law_mix := mkSt X G (fn := f_law_mix) (st := topS 15) (x := "_law_mix") rfl a6 l6 c6 k6 (fun _ _ _ _ _ _ us hl => match us, hl with | [_, _, _], _ => rfl) sc_f_law_mix q_f_law_mix (fun nm z => nomatch z)
  have s7 : FnSt T K mg tbv csv f_law_same := mkSt X G (fn := f_law_same) (st := topS 16) (x := "_law_same") rfl a7 l7 c7 k7 (fun _ _ _ _ _ _ us hl => match us, hl with | [_, _], _ => rfl) sc_f_law_same q_f_law_same (fun nm z => nomatch z)
  have s8 : FnSt T K mg tbv csv f_law_tags := mkSt X G (fn := f_law_tags) (st := topS 17) (x := "_law_tags") rfl a8 l8 c8 k8 (fun _ _ _ _ _ _ us hl => match us, hl with | [], _ => rfl) sc_f_law_tags q_f_law_tags (fun nm z => nomatch z)
  have s9 : FnSt T K mg tbv csv f_law_tag := mkSt X G (fn := f_law_tag) (st := topS 18) (x := "_law_tag") rfl a9 l9 c9 k9 (fun _ _ _ _ _ _ us hl => match us, hl with | [_], _ => rfl) sc_f_law_tag q_f_law_tag (fun nm z => nomatch z)
  have s10 : FnSt T K mg tbv csv f_law_some_tags := mkSt X G (fn := f_law_some_tags) (st := topS 19) (x := "_law_some_tags") rfl a10 l10 c10 k10 (fun _ _ _ _ _ _ us hl => match us, hl with | [_, _], _ => rfl) sc_f_law_some_tags q_f_law_some_tags (fun nm z => nomatch z)
  have s11 : FnSt T K mg tbv csv f_law_links := mkSt X G (fn := f_law_links) (st := topS 20) (x := "_law_links") rfl a11 l11 c11 k11 (fun _ _ _ _ _ _ us hl => match us, hl with | [_], _ => rfl) sc_f_law_links q_f_law_links (fun nm z => nomatch z)
  have s12 : FnSt T K mg tbv csv f_law_text := mkSt X G (fn := f_law_text) (st := topS 21) (x := "_law_text") rfl a12 l12 c12 k12 (fun _ _ _ _ _ _ us hl => match us, hl with | [_], _ => rfl) sc_f_law_text q_f_law_text (fun nm z => nomatch z)
  have s13 : FnSt T K mg tbv csv f_law_name := mkSt X G (fn := f_law_name) (st := topS 22) (x := "_law_name") rfl a13 l13 c13 k13 (fun _ _ _ _ _ _ us hl => match us, hl with | [_], _ => rfl) sc_f_law_name q_f_law_name (fun nm z => nomatch z)
  have s14 : FnSt T K mg tbv csv f_law_cases := mkSt X G (fn := f_law_cases) (st := topS 23) (x := "_law_cases") rfl a14 l14 c14 k14 (fun _ _ _ _ _ _ us hl => match us, hl with | [_, _, _, _], _ => rfl) sc_f_law_cases q_f_law_cases (fun nm z => nomatch z)
  have s15 : FnSt T K mg tbv csv f_law_message := mkSt X G (fn := f_law_message) (st := topS 24) (x := "_law_message") rfl a15 l15 c15 k15 (fun _ _ _ _ _ _ us hl => match us, hl with | [_, _, _], _ => rfl) sc_f_law_message q_f_law_message (fun nm z => nomatch z)
  have s16 : FnSt T K mg tbv csv f_law_test := mkSt X G (fn := f_law_test) (st := topS 25) (x := "_law_test") rfl a16 l16 c16 k16 (fun _ _ _ _ _ _ us hl => match us, hl with | [_], _ => rfl) sc_f_law_test q_f_law_test (fun nm z => nomatch z)
  have s17 : FnSt T K mg tbv csv f_law_rules := mkSt X G (fn := f_law_rules) (st := topS 26) (x := "_law_rules") rfl a17 l17 c17 k17 (fun _ _ _ _ _ _ us hl => match us, hl with | [_], _ => rfl) sc_f_law_rules q_f_law_rules (fun nm z => nomatch z)
  have s18 : FnSt T K mg tbv csv f_law_book := mkSt X G (fn := f_law_book) (st := topS 27) (x := "_law_book") rfl a18 l18 c18 k18 (fun _ _ _ _ _ _ us hl => match us, hl with | [_, _, _], _ => rfl) sc_f_law_book q_f_law_book (fun nm z => nomatch z)
  have s19 : FnSt T K mg tbv csv f_law_house := mkSt X G (fn := f_law_house) (st := topS 28) (x := "_law_house") rfl a19 l19 c19 k19 (fun _ _ _ _ _ _ us hl => match us, hl with | [_, _], _ => rfl) sc_f_law_house q_f_law_house (fun nm z => nomatch z)
  have s20 : FnSt T K mg tbv csv f_law_told_v6 := mkSt X G (fn := f_law_told_v6) (st := topS 29) (x := "_law_told") rfl a20 l20 c20 k20 (fun _ _ _ _ _ _ us hl => match us, hl with | [_, _, _], _ => rfl) sc_f_law_told_v6 q_f_law_told_v6 (fun nm z => nomatch z)
  have s21 : FnSt T K mg tbv csv f_law_k26 := mkSt X G (fn := f_law_k26) (st := topS 30) (x := "law") rfl a21 l21 c21 k21 (fun _ _ _ _ _ _ us hl => match us, hl with | [_], _ => rfl) sc_f_law_k26 q_f_law_k26 (fun nm z => nomatch z)
  have hbl : ∀ x, T.bl.contains x = true → mg x = none := by
    intro x hx
    have hx := List.contains_iff_mem.mp hx
    simp only [T, T0, List.mem_cons, List.not_mem_nil, or_false] at hx
    rcases hx with rfl | rfl | rfl | rfl | rfl | rfl | rfl | rfl | rfl | rfl | rfl | rfl | rfl | rfl | rfl | rfl
    · exact PySem.W.mg_none_of X G z0
    · exact PySem.W.mg_none_of X G z1
    · exact PySem.W.mg_none_of X G z2
    · exact PySem.W.mg_none_of X G z3
    · exact PySem.W.mg_none_of X G z4
    · exact PySem.W.mg_none_of X G z5
    · exact PySem.W.mg_none_of X G z6
    · exact PySem.W.mg_none_of X G z7
    · exact PySem.W.mg_none_of X G z8
    · exact PySem.W.mg_none_of X G z9
    · exact PySem.W.mg_none_of X G z10
    · exact PySem.W.mg_none_of X G z11
    · exact PySem.W.mg_none_of X G z12
    · exact PySem.W.mg_none_of X G z13
    · exact PySem.W.mg_none_of X G z14
    · exact PySem.W.mg_none_of X G z15
  have hgl : ∀ p ∈ T.gl, ∃ v u, mg p.1 = some u ∧ RelV v u ∧ ∀ (pw : Pw) H O, @Rp pw K H O p.2 v := by
    intro p hp
    simp only [T, T0, List.mem_cons, List.not_mem_nil, or_false] at hp
  have hst : ∀ f fn, T.fn f = some fn → FnSt T K mg tbv csv fn := by
    intro f fn hf
    simp only [T, T0] at hf
    split at hf
    · cases hf; exact s0
    · cases hf; exact s1
    · cases hf; exact s2
    · cases hf; exact s3
    · cases hf; exact s4
    · cases hf; exact s5
    · cases hf; exact s6
    · cases hf; exact s7
    · cases hf; exact s8
    · cases hf; exact s9
    · cases hf; exact s10
    · cases hf; exact s11
    · cases hf; exact s12
    · cases hf; exact s13
    · cases hf; exact s14
    · cases hf; exact s15
    · cases hf; exact s16
    · cases hf; exact s17
    · cases hf; exact s18
    · cases hf; exact s19
    · cases hf; exact s20
    · cases hf; exact s21
    · cases hf
  have hxo : ∀ a0 L, @XOk (pwA l.prog w mg (faOf T mg) tbv a0 L) T K := by
    intro a0 L
    letI : Pw := pwA l.prog w mg (faOf T mg) tbv a0 L
    have mx0 : mg (toS (xNm 0)) = some (.ref cx0) := PySem.W.mg_of X G xn0
    have ex0 : xC 0 = cx0 := xC_of (T := T) rfl (by omega) mx0
    have mx1 : mg (toS (xNm 1)) = some (.ref cx1) := PySem.W.mg_of X G xn1
    have ex1 : xC 1 = cx1 := xC_of (T := T) rfl (by omega) mx1
    have mx2 : mg (toS (xNm 2)) = some (.ref cx2) := PySem.W.mg_of X G xn2
    have ex2 : xC 2 = cx2 := xC_of (T := T) rfl (by omega) mx2
    have mx3 : mg (toS (xNm 3)) = some (.ref cx3) := PySem.W.mg_of X G xn3
    have ex3 : xC 3 = cx3 := xC_of (T := T) rfl (by omega) mx3
    have mx4 : mg (toS (xNm 4)) = some (.ref cx4) := PySem.W.mg_of X G xn4
    have ex4 : xC 4 = cx4 := xC_of (T := T) rfl (by omega) mx4
    have mx5 : mg (toS (xNm 5)) = some (.ref cx5) := PySem.W.mg_of X G xn5
    have ex5 : xC 5 = cx5 := xC_of (T := T) rfl (by omega) mx5
    have ok3 : XcOk K T.xn 3 := by
      refine { mg := ?_, kp := ?_, ex := ?_, ty := ?_, hd := ?_, ga := ?_, gg := ?_, ca := ?_, cg := xcg, ct := xct, mo := ?_, nn := ?_, isa := ?_, te := ?_, own := ?_, nv := ?_ }
      · rw [ex3]; exact mx3
      · rw [ex3]; exact xk3
      · rw [ex3]; exact xb3
      · rw [ex3]; exact xt3
      · rw [ex3]; exact xd3
      · rw [ex3]; exact xga3
      · rw [ex3]; exact xgg3
      · rw [ex3]; exact xca3
      · rw [ex3]; exact xmo3
      · rw [ex3]; exact xnn3
      · intro b' hb
        simp only [T, T0, List.mem_cons, List.not_mem_nil, or_false] at hb
        rw [ex3]
        rcases hb with rfl | rfl | rfl | rfl | rfl
        · show PySem.W.kitOne K _ (.ref (xC 1)) = _; rw [ex1]; exact xi3_1
        · show PySem.W.kitOne K _ (.ref (xC 2)) = _; rw [ex2]; exact xi3_2
        · show PySem.W.kitOne K _ (.ref (xC 3)) = _; rw [ex3]; exact xi3_3
        · show PySem.W.kitOne K _ (.ref (xC 4)) = _; rw [ex4]; exact xi3_4
        · show PySem.W.kitOne K _ (.ref (xC 5)) = _; rw [ex5]; exact xi3_5
      · rw [ex3, ex0]; exact PySem.W.exm_ref xb0 xd0 xt0 xs3
      · intro _; rw [ex3]; exact xo3
      · intro z; cases z
    have ok4 : XcOk K T.xn 4 := by
      refine { mg := ?_, kp := ?_, ex := ?_, ty := ?_, hd := ?_, ga := ?_, gg := ?_, ca := ?_, cg := xcg, ct := xct, mo := ?_, nn := ?_, isa := ?_, te := ?_, own := ?_, nv := ?_ }
      · rw [ex4]; exact mx4
      · rw [ex4]; exact xk4
      · rw [ex4]; exact xb4
      · rw [ex4]; exact xt4
      · rw [ex4]; exact xd4
      · rw [ex4]; exact xga4
      · rw [ex4]; exact xgg4
      · rw [ex4]; exact xca4
      · rw [ex4]; exact xmo4
      · rw [ex4]; exact xnn4
      · intro b' hb
        simp only [T, T0, List.mem_cons, List.not_mem_nil, or_false] at hb
        rw [ex4]
        rcases hb with rfl | rfl | rfl | rfl | rfl
        · show PySem.W.kitOne K _ (.ref (xC 1)) = _; rw [ex1]; exact xi4_1
        · show PySem.W.kitOne K _ (.ref (xC 2)) = _; rw [ex2]; exact xi4_2
        · show PySem.W.kitOne K _ (.ref (xC 3)) = _; rw [ex3]; exact xi4_3
        · show PySem.W.kitOne K _ (.ref (xC 4)) = _; rw [ex4]; exact xi4_4
        · show PySem.W.kitOne K _ (.ref (xC 5)) = _; rw [ex5]; exact xi4_5
      · rw [ex4, ex0]; exact PySem.W.exm_ref xb0 xd0 xt0 xs4
      · intro _; rw [ex4]; exact xo4
      · intro z; cases z
    have hxx : XOk T K := by
      refine ⟨fadA hst rfl a0, ?_, ?_, fun _ => by rw [ex0]; exact mx0⟩
      · intro b hb
        simp only [T, T0, List.mem_cons, List.not_mem_nil, or_false] at hb
        rcases hb with rfl | rfl
        · exact ok3
        · exact ok4
      · intro b hb h6
        simp only [T, T0, List.mem_cons, List.not_mem_nil, or_false] at hb
        rcases hb with rfl | rfl | rfl | rfl | rfl
        · rw [ex1]; exact mx1
        · rw [ex2]; exact mx2
        · rw [ex3]; exact mx3
        · rw [ex4]; exact mx4
        · rw [ex5]; exact mx5
    exact hxx
  have hT : ∀ p ∈ csv, h.get? p.2 = some { cls := .none, data := .fields #[] } := by
    intro p hp
    simp only [csv, List.mem_cons, List.not_mem_nil, or_false] at hp
    rcases hp with rfl | rfl
    · exact td2.2
    · exact td4.2
  have nT : ∀ p ∈ csv, K.lookup p.2 = none := by
    intro p hp
    simp only [csv, List.mem_cons, List.not_mem_nil, or_false] at hp
    rcases hp with rfl | rfl
    · exact tn2
    · exact tn4
  have hC : ∀ p ∈ csv, PySem.W.CodeHd h p.1 p.2 := by
    intro p hp
    simp only [csv, List.mem_cons, List.not_mem_nil, or_false] at hp
    rcases hp with rfl | rfl
    · exact td2.1
    · exact td4.1
  have htb : ∀ p ∈ tbv, ∃ r ∈ csv, r.2 = p.1 := by
    intro p hp
    simp only [tbv, List.mem_cons, List.not_mem_nil, or_false] at hp
    rcases hp with rfl | rfl
    · exact ⟨(tc2, tp2), by simp [csv], rfl⟩
    · exact ⟨(tc4, tp4), by simp [csv], rfl⟩
  have c1 : ∀ cid, (T.cli cid).1 = 1 → cid < 1000 ∧ T.ev (4000000 + cid) = none := by
    intro cid hc
    by_cases e0 : cid = 0
    · subst e0; exact absurd hc (by decide)
    by_cases e1 : cid = 1
    · subst e1; exact absurd hc (by decide)
    exact absurd hc (by simp [T, T0, e0, e1])
  have c2 : ∀ cid, (T.cli cid).1 = 2 → cid < 1000 ∧ T.ev (3000000 + cid) = none := by
    intro cid hc
    by_cases e0 : cid = 0
    · subst e0; exact ⟨by omega, rfl⟩
    by_cases e1 : cid = 1
    · subst e1; exact ⟨by omega, rfl⟩
    exact absurd hc (by simp [T, T0, e0, e1])
  have no1 : ∀ f, 1000000 ≤ f → T.fn f = none := by
    intro f hf
    simp only [T, T0]
    split <;> first | rfl | (exfalso; omega)
  have hev : ∀ f, f < 3000000 → T.ev f = T.fn f := by
    intro f hf
    simp only [T, T0]
    rw [if_neg (by omega), if_neg (by omega)]
  exact law_at (T := T) (W := 1000) (tb := tbv) (cs := csv) (fa := faOf T mg) (k := 39) (f := 134) (fn := f_law_k26) (st := topS 30) (x := "law") (fun base _ _ tb => ⟨hbl, hgl, hxo, hev, rfl, no1, (fun _ _ _ z => z), (fun _ _ _ z => z), rfl, c1, c2, hst, tb⟩) rfl rfl rfl (fun_mk (st := topS 30) l21 c21 k21) sc_f_law_k26 q_f_law_k26 rfl (fun s v => .of_eq rfl) hT nT hC htb pure_law
end
end MT
open PySem PySem.W PyProof.Rows
set_option maxHeartbeats 0 in
theorem PySem.Challenge.cw_manytongues_k26_keys_that_go_and_move_holds : PySem.Challenge.rw_manytongues_k26_keys_that_go_and_move.Holds := by
  w_on; o_law; k_head; (case hw => w_witness2)
  k_fill
  refine MT.walk_T (l := PySem.Challenge.rw_manytongues_k26_keys_that_go_and_move) (n := 63) (k := 40) (x := "script") (CX := fun w => L2.CX PySem.Challenge.rw_manytongues_k26_keys_that_go_and_move.prog w) rfl (by decide) rfl ⟨rfl, by decide, by decide⟩ (fun w h Y => Y.1) ?F (fun w H s e s' h => MT.cx_no h)
  case F =>
    intro w mg fa h KX G hmg hTab
    refine' MT.all_mk KX G hmg ?a0 ?l0 ?c0 ?k0 ?a1 ?l1 ?c1 ?k1 ?a2 ?l2 ?c2 ?k2 ?a3 ?l3 ?c3 ?k3 ?a4 ?l4 ?c4 ?k4 ?a5 ?l5 ?c5 ?k5 ?a6 ?l6 ?c6 ?k6 ?a7 ?l7 ?c7 ?k7 ?a8 ?l8 ?c8 ?k8 ?a9 ?l9 ?c9 ?k9 ?a10 ?l10 ?c10 ?k10 ?a11 ?l11 ?c11 ?k11 ?a12 ?l12 ?c12 ?k12 ?a13 ?l13 ?c13 ?k13 ?a14 ?l14 ?c14 ?k14 ?a15 ?l15 ?c15 ?k15 ?a16 ?l16 ?c16 ?k16 ?a17 ?l17 ?c17 ?k17 ?a18 ?l18 ?c18 ?k18 ?a19 ?l19 ?c19 ?k19 ?a20 ?l20 ?c20 ?k20 ?a21 ?l21 ?c21 ?k21 ?ti2 ?tr2 ?tn2 ?td2 ?ti4 ?tr4 ?tn4 ?td4 ?tu2_4 ?z0 ?z1 ?z2 ?z3 ?z4 ?z5 ?z6 ?z7 ?z8 ?z9 ?z10 ?z11 ?z12 ?z13 ?z14 ?z15 ?xn0 ?xn1 ?xn2 ?xn3 ?xn4 ?xn5 ?xb0 ?xd0 ?xt0 ?xcg ?xct ?xk3 ?xb3 ?xt3 ?xd3 ?xga3 ?xgg3 ?xca3 ?xmo3 ?xnn3 ?xs3 ?xi3_1 ?xi3_2 ?xi3_3 ?xi3_4 ?xi3_5 ?xo3 ?xk4 ?xb4 ?xt4 ?xd4 ?xga4 ?xgg4 ?xca4 ?xmo4 ?xnn4 ?xs4 ?xi4_1 ?xi4_2 ?xi4_3 ?xi4_4 ?xi4_5 ?xo4
    (case a0 => k_is); (case l0 => k_is); (case c0 => k_is); (case k0 => k_is); (case a1 => k_is); (case l1 => k_is); (case c1 => k_is); (case k1 => k_is); (case a2 => k_is); (case l2 => k_is); (case c2 => k_is); (case k2 => k_is); (case a3 => k_is); (case l3 => k_is); (case c3 => k_is); (case k3 => k_is); (case a4 => k_is); (case l4 => k_is); (case c4 => k_is); (case k4 => k_is); (case a5 => k_is); (case l5 => k_is); (case c5 => k_is); (case k5 => k_is); (case a6 => k_is); (case l6 => k_is); (case c6 => k_is); (case k6 => k_is); (case a7 => k_is); (case l7 => k_is); (case c7 => k_is); (case k7 => k_is); (case a8 => k_is); (case l8 => k_is); (case c8 => k_is); (case k8 => k_is); (case a9 => k_is); (case l9 => k_is); (case c9 => k_is); (case k9 => k_is); (case a10 => k_is); (case l10 => k_is); (case c10 => k_is); (case k10 => k_is); (case a11 => k_is); (case l11 => k_is); (case c11 => k_is); (case k11 => k_is); (case a12 => k_is); (case l12 => k_is); (case c12 => k_is); (case k12 => k_is); (case a13 => k_is); (case l13 => k_is); (case c13 => k_is); (case k13 => k_is); (case a14 => k_is); (case l14 => k_is); (case c14 => k_is); (case k14 => k_is); (case a15 => k_is); (case l15 => k_is); (case c15 => k_is); (case k15 => k_is); (case a16 => k_is); (case l16 => k_is); (case c16 => k_is); (case k16 => k_is); (case a17 => k_is); (case l17 => k_is); (case c17 => k_is); (case k17 => k_is); (case a18 => k_is); (case l18 => k_is); (case c18 => k_is); (case k18 => k_is); (case a19 => k_is); (case l19 => k_is); (case c19 => k_is); (case k19 => k_is); (case a20 => k_is); (case l20 => k_is); (case c20 => k_is); (case k20 => k_is); (case a21 => k_is); (case l21 => k_is); (case c21 => k_is); (case k21 => k_is); (case ti2 => rfl); (case tr2 => rfl); (case tn2 => first | rfl | kernel_rfl); (case td2 => exact hTab "without_key" _ _ _ rfl (by first | rfl | kernel_rfl)); (case ti4 => rfl); (case tr4 => rfl); (case tn4 => first | rfl | kernel_rfl); (case td4 => exact hTab "moved" _ _ _ rfl (by first | rfl | kernel_rfl)); (case tu2_4 => decide); (case z0 => k_is); (case z1 => k_is); (case z2 => k_is); (case z3 => k_is); (case z4 => k_is); (case z5 => k_is); (case z6 => k_is); (case z7 => k_is); (case z8 => k_is); (case z9 => k_is); (case z10 => k_is); (case z11 => k_is); (case z12 => k_is); (case z13 => k_is); (case z14 => k_is); (case z15 => k_is); (case xn0 => k_is); (case xn1 => k_is); (case xn2 => k_is); (case xn3 => k_is); (case xn4 => k_is); (case xn5 => k_is); (case xb0 => k_is); (case xd0 => k_is); (case xt0 => k_is); (case xcg => k_is); (case xct => k_is); (case xk3 => k_is); (case xb3 => k_is); (case xt3 => k_is); (case xd3 => k_is); (case xga3 => k_is); (case xgg3 => k_is); (case xca3 => k_is); (case xmo3 => k_is); (case xnn3 => k_is); (case xs3 => first | rfl | k_is); (case xi3_1 => first | kit_is | k_is | rfl); (case xi3_2 => first | kit_is | k_is | rfl); (case xi3_3 => first | kit_is | k_is | rfl); (case xi3_4 => first | kit_is | k_is | rfl); (case xi3_5 => first | kit_is | k_is | rfl); (case xo3 => k_exc); (case xk4 => k_is); (case xb4 => k_is); (case xt4 => k_is); (case xd4 => k_is); (case xga4 => k_is); (case xgg4 => k_is); (case xca4 => k_is); (case xmo4 => k_is); (case xnn4 => k_is); (case xs4 => first | rfl | k_is); (case xi4_1 => first | kit_is | k_is | rfl); (case xi4_2 => first | kit_is | k_is | rfl); (case xi4_3 => first | kit_is | k_is | rfl); (case xi4_4 => first | kit_is | k_is | rfl); (case xi4_5 => first | kit_is | k_is | rfl); (case xo4 => k_exc)

