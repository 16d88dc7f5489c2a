import PyProof.Rows.All
import Wide.All
import OpenK.AllK
import Wide.FinOn
import HandS.List
import KE.SortKeyed
import HandS.ForExc
import HandS.Comp
import HandS.Iter
import HandS.Star
import HandS.Flow
import KE.KDictKeyed
import HandS.TupAny
import HandS.TupMul
import HandS.Style
import HandS.Wide
import HandS.Deep
import HandS.TupLe
import KE.LtData
import HandS.ExcOwn
import HandS.Defaults
import HandS.MakeKw
import OpenK.KMeth
import OpenK.KOps
import KE.SortData
import KE.KSortTup
import PyProof.TupleOfSeq
import KE.KTupSum
import HandS.Property
import HandS.ClsMeth
import HandS.CallRecv
import HandS.Zip
import HandS.Text
import HandS.FStr
import KE.KFmtOwn
import HandS.RaiseMore
import HandS.IsInst
import HandS.Small
import PyProof.Rows.Range3
import HandS.Ends
import HandS.HeadEnd
import HandS.HeadHook4
import HandS.Head0
import HandS.Head1
import HandS.Head2
import KE.KEqDeep
import PyProof.FitsInt
import PyProof.StrBlockL
import PySem.Challenge.RW_lonechild_k26_up_sets
section
set_option autoImplicit false
set_option linter.all false
/-! Lc: abstract values, a small core language, its interpreter. -/
namespace Lc
open PySem hiding isTrue

/-- an abstract value: data are trees; loc: a thing that may still be changed, by its place in the store -/
inductive D where
  | non | bl (b : Bool) | int (i : Int) | str (s : Str)
  | tup (xs : List D) | lst (xs : List D)
  | dic (ks vs : List D)
  | obj (c : Nat) (ns : List Str) (vs : List D)
  | loc (n : Nat)
  | cls (c : Nat)

mutual
def D.dec : (a b : D) → Decidable (a = b)
  | .non, .non => Decidable.isTrue rfl
  | .bl x, .bl y => if h : x = y then Decidable.isTrue (by rw [h]) else Decidable.isFalse (fun e => h (by injection e))
  | .int x, .int y => if h : x = y then Decidable.isTrue (by rw [h]) else Decidable.isFalse (fun e => h (by injection e))
  | .str x, .str y => if h : x = y then Decidable.isTrue (by rw [h]) else Decidable.isFalse (fun e => h (by injection e))
  | .tup xs, .tup ys => match D.decL xs ys with
    | Decidable.isTrue h => Decidable.isTrue (by rw [h])
    | Decidable.isFalse h => Decidable.isFalse (fun e => h (by injection e))
  | .lst xs, .lst ys => match D.decL xs ys with
    | Decidable.isTrue h => Decidable.isTrue (by rw [h])
    | Decidable.isFalse h => Decidable.isFalse (fun e => h (by injection e))
  | .dic a b, .dic c d => match D.decL a c, D.decL b d with
    | Decidable.isTrue h, Decidable.isTrue k => Decidable.isTrue (by rw [h, k])
    | Decidable.isFalse h, _ => Decidable.isFalse (fun e => h (by injection e))
    | _, Decidable.isFalse h => Decidable.isFalse (fun e => h (by injection e))
  | .obj a b c, .obj d e f => if h : a = d then (if k : b = e then (match D.decL c f with
      | Decidable.isTrue q => Decidable.isTrue (by rw [h, k, q])
      | Decidable.isFalse q => Decidable.isFalse (fun z => q (by injection z))) else Decidable.isFalse (fun z => k (by injection z))) else Decidable.isFalse (fun z => h (by injection z))
  | .loc x, .loc y => if h : x = y then Decidable.isTrue (by rw [h]) else Decidable.isFalse (fun e => h (by injection e))
  | .cls x, .cls y => if h : x = y then Decidable.isTrue (by rw [h]) else Decidable.isFalse (fun e => h (by injection e))
  | .non, .bl _ | .non, .int _ | .non, .str _ | .non, .tup _ | .non, .lst _ | .non, .dic _ _ | .non, .obj _ _ _ | .non, .loc _ => Decidable.isFalse (fun e => nomatch e)
  | .bl _, .non | .bl _, .int _ | .bl _, .str _ | .bl _, .tup _ | .bl _, .lst _ | .bl _, .dic _ _ | .bl _, .obj _ _ _ | .bl _, .loc _ => Decidable.isFalse (fun e => nomatch e)
  | .int _, .non | .int _, .bl _ | .int _, .str _ | .int _, .tup _ | .int _, .lst _ | .int _, .dic _ _ | .int _, .obj _ _ _ | .int _, .loc _ => Decidable.isFalse (fun e => nomatch e)
  | .str _, .non | .str _, .bl _ | .str _, .int _ | .str _, .tup _ | .str _, .lst _ | .str _, .dic _ _ | .str _, .obj _ _ _ | .str _, .loc _ => Decidable.isFalse (fun e => nomatch e)
  | .tup _, .non | .tup _, .bl _ | .tup _, .int _ | .tup _, .str _ | .tup _, .lst _ | .tup _, .dic _ _ | .tup _, .obj _ _ _ | .tup _, .loc _ => Decidable.isFalse (fun e => nomatch e)
  | .lst _, .non | .lst _, .bl _ | .lst _, .int _ | .lst _, .str _ | .lst _, .tup _ | .lst _, .dic _ _ | .lst _, .obj _ _ _ | .lst _, .loc _ => Decidable.isFalse (fun e => nomatch e)
  | .dic _ _, .non | .dic _ _, .bl _ | .dic _ _, .int _ | .dic _ _, .str _ | .dic _ _, .tup _ | .dic _ _, .lst _ | .dic _ _, .obj _ _ _ | .dic _ _, .loc _ => Decidable.isFalse (fun e => nomatch e)
  | .obj _ _ _, .non | .obj _ _ _, .bl _ | .obj _ _ _, .int _ | .obj _ _ _, .str _ | .obj _ _ _, .tup _ | .obj _ _ _, .lst _ | .obj _ _ _, .dic _ _ | .obj _ _ _, .loc _ => Decidable.isFalse (fun e => nomatch e)
  | .loc _, .non | .loc _, .bl _ | .loc _, .int _ | .loc _, .str _ | .loc _, .tup _ | .loc _, .lst _ | .loc _, .dic _ _ | .loc _, .obj _ _ _ => Decidable.isFalse (fun e => nomatch e)
  | .cls _, .non | .cls _, .bl _ | .cls _, .int _ | .cls _, .str _ | .cls _, .tup _ | .cls _, .lst _ | .cls _, .dic _ _ | .cls _, .obj _ _ _ | .cls _, .loc _ => Decidable.isFalse (fun e => nomatch e)
  | .non, .cls _ | .bl _, .cls _ | .int _, .cls _ | .str _, .cls _ | .tup _, .cls _ | .lst _, .cls _ | .dic _ _, .cls _ | .obj _ _ _, .cls _ | .loc _, .cls _ => Decidable.isFalse (fun e => nomatch e)
def D.decL : (a b : List D) → Decidable (a = b)
  | [], [] => Decidable.isTrue rfl
  | x :: xs, y :: ys => match D.dec x y, D.decL xs ys with
    | Decidable.isTrue h, Decidable.isTrue k => Decidable.isTrue (by rw [h, k])
    | Decidable.isFalse h, _ => Decidable.isFalse (fun e => h (by injection e))
    | _, Decidable.isFalse h => Decidable.isFalse (fun e => h (by injection e))
  | [], _ :: _ => Decidable.isFalse (fun e => nomatch e)
  | _ :: _, [] => Decidable.isFalse (fun e => nomatch e)
end
instance : DecidableEq D := D.dec

/-- a thing in the store -/
inductive AO where
  | lst (xs : List D) | dic (ks vs : List D) | obj (c : Nat) (ns : List Str) (vs : List D) | dead
  deriving DecidableEq
abbrev Store := List AO
abbrev Loc := List (Option D)
structure Exn where
  c : Nat
  ns : List Str
  vs : List D

inductive Res (α : Type) where
  | ok (a : α) (M : Store) | exc (x : Exn) (M : Store) | bad
namespace Res
variable {α β : Type}
def bind (r : Res α) (f : α → Store → Res β) : Res β := match r with
  | ok a M => f a M
  | exc x M => exc x M
  | bad => bad
@[simp] theorem bind_ok (a : α) (M : Store) (f : α → Store → Res β) : (ok a M).bind f = f a M := rfl
@[simp] theorem bind_exc (x : Exn) (M : Store) (f : α → Store → Res β) : (exc x M).bind f = exc x M := rfl
@[simp] theorem bind_bad (f : α → Store → Res β) : (bad : Res α).bind f = bad := rfl
end Res
/-- what a statement leads to -/
inductive SR where
  | nx (L : Loc) (M : Store) | rt (v : D) (M : Store) | bk (L : Loc) (M : Store) | ct (L : Loc) (M : Store) | exc (x : Exn) (L : Loc) (M : Store) | bad
def Res.toS (r : Res D) (L : Loc) (f : D → Store → SR) : SR := match r with
  | .ok a M => f a M
  | .exc x M => .exc x L M
  | .bad => .bad
def SR.bind (r : SR) (f : Loc → Store → SR) : SR := match r with
  | .nx L M => f L M
  | r => r

/-! ### data -/
mutual
/-- as the library's data -/
def D.pd : D → PyData
  | .non => .none | .bl b => .bool b | .int i => .int i | .str s => .str s
  | .tup xs => .tuple (D.pdL xs) | .lst xs => .list (D.pdL xs)
  | .dic _ _ => .none | .obj _ _ _ => .none | .loc _ => .none | .cls _ => .none
def D.pdL : List D → List PyData
  | [] => []
  | x :: xs => D.pd x :: D.pdL xs
end
mutual
/-- plain data, nested at most n deep -/
def D.pure : Nat → D → Bool
  | _, .non => true | _, .bl _ => true | _, .int _ => true | _, .str s => PyData.canLay0 (.str s)
  | 0, .tup _ => false | 0, .lst _ => false
  | n + 1, .tup xs => D.pureL n xs | n + 1, .lst xs => D.pureL n xs
  | _, .dic _ _ => false | _, .obj _ _ _ => false | _, .loc _ => false | _, .cls _ => false
def D.pureL : Nat → List D → Bool
  | _, [] => true
  | n, x :: xs => D.pure n x && D.pureL n xs
end
mutual
/-- no list within: may be a key -/
def D.key : Nat → D → Bool
  | _, .non => true | _, .bl _ => true | _, .int _ => true | _, .str _ => true
  | 0, .tup _ => false
  | n + 1, .tup xs => D.keyL n xs
  | _, .lst _ => false | _, .dic _ _ => false | _, .obj _ _ _ => false | _, .loc _ => false | _, .cls _ => false
def D.keyL : Nat → List D → Bool
  | _, [] => true
  | n, x :: xs => D.key n x && D.keyL n xs
end
def peq (x y : D) : Bool := PyData.eqv x.pd y.pd
def plt (x y : D) : Bool := PySem.W.dataLt x.pd y.pd
def alike (x y : D) : Bool := PySem.W.alike x.pd y.pd
def dle (x y : D) : Bool := PySem.W.dataLe false D.pd x y
mutual
/-- no place of the store from n on is named -/
def D.under (n : Nat) : D → Bool
  | .non => true | .bl _ => true | .int _ => true | .str _ => true
  | .tup xs => D.underL n xs | .lst xs => D.underL n xs
  | .dic ks vs => D.underL n ks && D.underL n vs
  | .obj _ _ vs => D.underL n vs
  | .loc m => decide (m < n)
  | .cls _ => true
def D.underL (n : Nat) : List D → Bool
  | [] => true
  | x :: xs => D.under n x && D.underL n xs
end
def AO.under (n : Nat) : AO → Bool
  | .lst xs => D.underL n xs
  | .dic ks vs => D.underL n ks && D.underL n vs
  | .obj _ _ vs => D.underL n vs
  | .dead => true

/-- what a value shows -/
def view (M : Store) : D → D
  | .loc n => match M[n]? with
    | some (.lst xs) => .lst xs
    | some (.dic ks vs) => .dic ks vs
    | some (.obj c ns vs) => .obj c ns vs
    | _ => .loc n
  | d => d
def line : Nat := 16777216
def fits {α : Type} (xs : List α) : Bool := decide (xs.length ≤ line)
/-- a new list -/
def newL (own : Bool) (xs : List D) (M : Store) : Res D :=
  if fits xs then (if own then .ok (.loc M.length) (M ++ [.lst xs]) else .ok (.lst xs) M) else .bad
def newT (xs : List D) (M : Store) : Res D := if fits xs then .ok (.tup xs) M else .bad
def newS (s : Str) (M : Store) : Res D := if s.length ≤ line then .ok (.str s) M else .bad

/-! ### operators by values -/
inductive BOp where
  | add | sub | mul | fdiv | mod | pow | or | and
  deriving DecidableEq
inductive COp where
  | eq | ne | lt | le | gt | ge | is | isNot | inn | notIn
  deriving DecidableEq
def mulOk (i j : Int) : Bool := decide (i.natAbs.log2 + j.natAbs.log2 < 1000000)
def powOk (i j : Int) : Bool := decide (0 ≤ j) && decide (j ≤ 1000) && decide (i.natAbs.log2 < 1000)
def divOk (j : Int) : Bool := decide (0 < j) && decide (j.natAbs.log2 < 9000)
def binop (op : BOp) (own : Bool) (x y : D) (M : Store) : Res D :=
  match op, view M x, view M y with
  | .add, .int i, .int j => .ok (.int (i + j)) M
  | .sub, .int i, .int j => .ok (.int (i - j)) M
  | .mul, .int i, .int j => if mulOk i j then .ok (.int (i * j)) M else .bad
  | .fdiv, .int i, .int j => if divOk j then .ok (.int (i / j)) M else .bad
  | .pow, .int i, .int j => if powOk i j then .ok (.int (i ^ j.toNat)) M else .bad
  | .mod, .int i, .int j => if 0 < j then .ok (.int (i % j)) M else .bad
  | .add, .str a, .str b => if a.length + b.length ≤ line then .ok (.str (a ++ b)) M else .bad
  | .add, .tup xs, .tup ys => newT (xs ++ ys) M
  | .add, .lst xs, .lst ys => newL own (xs ++ ys) M
  | .mul, .tup xs, .int n => if -1000 ≤ n ∧ n ≤ 1000 ∧ xs.length ≤ 1000 then newT ((List.replicate n.toNat xs).flatten) M else .bad
  | .mul, .lst xs, .int n => if -1000000 ≤ n ∧ n ≤ 1000000 then newL own ((List.replicate n.toNat xs).flatten) M else .bad
  | _, _, _ => .bad
/-- plain data of one depth -/
def flatN : Nat := 40
def isin (x : D) (ys : List D) : Bool := ys.any fun y => peq y x
/-- where a key is -/
def findK (k : D) : List D → List D → Option D
  | a :: ks, v :: vs => if peq a k then some v else findK k ks vs
  | _, _ => none
def cmpop (op : COp) (x y : D) (M : Store) : Res D :=
  match op with
  | .eq => if (view M x).pure flatN && (view M y).pure flatN then .ok (.bl (peq (view M x) (view M y))) M else .bad
  | .ne => if (view M x).pure flatN && (view M y).pure flatN then .ok (.bl (!peq (view M x) (view M y))) M else .bad
  | .is => match x, y with
    | x, .non => .ok (.bl (decide (x = .non))) M
    | .bl a, .bl b => .ok (.bl (a == b)) M
    | _, _ => .bad
  | .isNot => match x, y with
    | x, .non => .ok (.bl (!decide (x = .non))) M
    | .bl a, .bl b => .ok (.bl (!(a == b))) M
    | _, _ => .bad
  | .lt => match x, y with
    | .int i, .int j => .ok (.bl (decide (i < j))) M
    | .tup xs, .tup ys => if x.pure flatN && y.pure flatN && alike x y then .ok (.bl (plt x y)) M else .bad
    | _, _ => .bad
  | .le => match x, y with
    | .int i, .int j => .ok (.bl (decide (i ≤ j))) M
    | _, _ => .bad
  | .gt => match x, y with
    | .int i, .int j => .ok (.bl (decide (j < i))) M
    | _, _ => .bad
  | .ge => match x, y with
    | .int i, .int j => .ok (.bl (decide (j ≤ i))) M
    | _, _ => .bad
  | .inn => match view M y with
    | .tup ys => if x.pure flatN && (D.pureL flatN ys) then .ok (.bl (isin x ys)) M else .bad
    | .lst ys => if x.pure flatN && (D.pureL flatN ys) then .ok (.bl (isin x ys)) M else .bad
    | _ => .bad
  | .notIn => match view M y with
    | .tup ys => if x.pure flatN && (D.pureL flatN ys) then .ok (.bl (!isin x ys)) M else .bad
    | .lst ys => if x.pure flatN && (D.pureL flatN ys) then .ok (.bl (!isin x ys)) M else .bad
    | _ => .bad
/-- truth -/
def truth (M : Store) (x : D) : Option Bool := match view M x with
  | .non => some false | .bl b => some b | .int i => some (i != 0)
  | .str s => if s.length ≤ line then some (s.length != 0) else none
  | .tup xs => some (!xs.isEmpty) | .lst xs => some (!xs.isEmpty)
  | _ => none
/-- x[i] -/
def index (x i : D) (M : Store) : Res D := match view M x, i with
  | .tup xs, .int n => match L2.atI xs n with | some v => .ok v M | none => .bad
  | .lst xs, .int n => match L2.atI xs n with | some v => .ok v M | none => .bad
  | _, _ => .bad
def cutG {α : Type} (xs : List α) (lo hi : Option Int) : List α := (xs.drop (HT.sIx xs.length 0 lo)).take (HT.sIx xs.length xs.length hi - HT.sIx xs.length 0 lo)
def slice (own : Bool) (x : D) (lo hi : Option Int) (M : Store) : Res D := match view M x with
  | .tup xs => newT (cutG xs lo hi) M
  | .lst xs => newL own (cutG xs lo hi) M
  | _ => .bad
/-- what is walked -/
def items (M : Store) (x : D) : Option (List D) := match view M x with
  | .tup xs => some xs | .lst xs => some xs | _ => none
end Lc
end

section
set_option autoImplicit false
set_option linter.all false
/-! Lc: the core language and its interpreter. -/
namespace Lc
open PySem hiding isTrue

inductive Pat where
  | v (i : Nat) | t (ps : List Pat)
mutual
def Pat.set : Pat → D → Store → Loc → Option Loc
  | .v i, d, _, L => some (L.set i (some d))
  | .t ps, d, M, L => match view M d with
    | .tup xs => Pat.setL ps xs M L
    | _ => none
def Pat.setL : List Pat → List D → Store → Loc → Option Loc
  | [], [], _, L => some L
  | p :: ps, x :: xs, M, L => match Pat.set p x M L with
    | some L1 => Pat.setL ps xs M L1
    | none => none
  | _, _, _, _ => none
end
mutual
def Pat.vars : Pat → List Nat
  | .v i => [i]
  | .t ps => Pat.varsL ps
def Pat.varsL : List Pat → List Nat
  | [] => []
  | p :: ps => Pat.vars p ++ Pat.varsL ps
end
def wipeL (L : Loc) : List Nat → Loc
  | [] => L
  | v :: vs => (wipeL L vs).set v none

inductive BF where
  | len | sorted | tuple | list | all | any | sum | abs | min2 | max2 | minL | maxL | int | str | repr | bool | nset
  deriving DecidableEq
inductive BM where
  | append | extend | pop | index | count | clear | get | get2 | join
  deriving DecidableEq
inductive TyC where
  | int | bool | str | tuple | list | own (c : Nat)
  deriving DecidableEq
mutual
inductive CE where
  | slot (i : Nat)
  | lit (d : D)
  | glob (x : Str) (d : D)
  | tup (es : List CE)
  | lst (own : Bool) (es : List CE)
  | star (e : CE)
  | bin (op : BOp) (own : Bool) (a b : CE)
  | neg (a : CE)
  | not (a : CE)
  | cmp (op : COp) (a b : CE)
  | cmp2 (op op' : COp) (a b c : CE)
  | conj (es : List CE)
  | disj (es : List CE)
  | ite (c a b : CE)
  | sub (a i : CE)
  | cut (own : Bool) (a : CE) (lo hi : Option CE)
  | rev (own : Bool) (a : CE)
  | fld (a : CE) (f : Str)
  | prop (a : CE) (f : Str)
  | call (f : Nat) (es ks : List CE) (as : List (Nat ⊕ D))
  | meth (m : Str) (o : CE) (es ks : List CE) (as : List (Nat ⊕ D))
  | mk (own : Bool) (c : Nat) (es ks : List CE) (as : List (Nat ⊕ D))
  | mkL (own : Bool) (i : Nat) (es : List CE) (as : List (Nat ⊕ D))
  | cmet (c : Nat) (m : Str) (es : List CE) (as : List (Nat ⊕ D))
  | bf (f : BF) (own : Bool) (es : List CE)
  | bm (m : BM) (own : Bool) (o : CE) (es : List CE)
  | comp (own : Bool) (gens : List CG) (vars : List Nat) (e : CE)
  | frz (e : CE)
  | rng (es : List CE) | enum (e : CE) | zip (a b : CE)
  | isi (a : CE) (cs : List TyC)
  | fmt (es : List CE)
inductive CG where
  | mk (p : Pat) (it : CE) (ifs : List CE)
end
inductive CT where
  | pat (p : Pat) | sub (o i : CE) | fld (o : CE) (f : Str)
mutual
inductive CS where
  | exp (e : CE)
  | asg (t : CT) (e : CE)
  | ret (e : CE)
  | retN
  | ite (c : CE) (a b : List CS)
  | loop (p : Pat) (it : CE) (body : List CS)
  | whl (c : CE) (body : List CS)
  | brk | cnt | pass
  | never
  | aug (i : Nat) (op : BOp) (e : CE)
  | augF (o : CE) (f : Str) (op : BOp) (e : CE)
  | fz (i : Nat)
  | mtch (e : CE) (cs : List CK)
inductive CK where
  | mk (pats : List Str) (wild : Bool) (body : List CS)
end

/-- the program around: its defs (by numbers), the methods of its classes -/
structure Fe where
  call : Nat → List D → Store → Res D
  meth : Nat → Str → Option Nat
  fld : Nat → Str → Bool
  prop : Nat → Str → Option Nat
  cmet : Nat → Str → Option Nat
def sEq : Str := "__eq__"
def sIn : Str := "__contains__"
def sOr : Str := "__or__"
def sAnd : Str := "__and__"
def sGet : Str := "__getitem__"
def sLen : Str := "__len__"
def sStr : Str := "__str__"
def sRepr : Str := "__repr__"
def sInit : Str := "__init__"

def sameU (n : Nat) : Store → Store → Bool
  | [], _ => true
  | x :: xs, y :: ys => (decide (x = y) || y.under n) && sameU n xs ys
  | _ :: _, [] => false
/-- behind a call: what the callee made is let go, if nothing names it -/
def trunc (M0 : Store) (v : D) (M' : Store) : Res D :=
  if v.under M0.length && sameU M0.length M0 M' then .ok v (M'.take M0.length) else .ok v M'
def noexc {α : Type} : Res α → Res α
  | .exc _ _ => .bad
  | r => r
def isB (v : D) (M : Store) : Res D := match v with
  | .bl b => .ok (.bl b) M
  | _ => .bad
def notB (v : D) (M : Store) : Res D := match v with
  | .bl b => .ok (.bl (!b)) M
  | _ => .bad
def cmpE (E : Fe) (op : COp) (x y : D) (M : Store) : Res D :=
  match op, view M x, view M y with
  | .eq, .obj c _ _, .obj c' _ _ => if c = c' then (match E.meth c sEq with | some f => (noexc (E.call f [x, y] M)).bind isB | none => .bad) else .bad
  | .inn, _, .obj c _ _ => match E.meth c sIn with | some f => (noexc (E.call f [y, x] M)).bind isB | none => .bad
  | .notIn, _, .obj c _ _ => match E.meth c sIn with | some f => (noexc (E.call f [y, x] M)).bind notB | none => .bad
  | op, _, _ => cmpop op x y M
def binE (E : Fe) (op : BOp) (own : Bool) (x y : D) (M : Store) : Res D :=
  match op, view M x, view M y with
  | .or, .obj c _ _, .obj c' _ _ => if c = c' then (match E.meth c sOr with | some f => noexc (E.call f [x, y] M) | none => .bad) else .bad
  | .and, .obj c _ _, .obj c' _ _ => if c = c' then (match E.meth c sAnd with | some f => noexc (E.call f [x, y] M) | none => .bad) else .bad
  | op, _, _ => binop op own x y M
def subE (E : Fe) (x i : D) (M : Store) : Res D := index x i M
def lookF (f : Str) : List Str → List D → Option D
  | n :: ns, v :: vs => if n = f then some v else lookF f ns vs
  | _, _ => none
def fldE (E : Fe) (x : D) (f : Str) (M : Store) : Res D := match view M x with
  | .obj c ns vs => match E.fld c f, lookF f ns vs with | true, some v => .ok v M | _, _ => .bad
  | _ => .bad
def putF (f : Str) (v : D) : List Str → List D → List Str × List D
  | n :: ns, w :: ws => if n = f then (n :: ns, v :: ws) else ((putF f v ns ws).map (n :: ·) (w :: ·))
  | _, _ => ([f], [v])
def setFld (E : Fe) (x : D) (f : Str) (v : D) (M : Store) : Option Store := match x with
  | .loc n => match M[n]? with
    | some (.obj c ns vs) => if E.fld c f && decide (ns.length < 900) then some (M.set n (.obj c (putF f v ns vs).1 (putF f v ns vs).2)) else none
    | _ => none
  | _ => none
def setIx (x i v : D) (M : Store) : Option Store := match x, i with
  | .loc n, .int k => match M[n]? with
    | some (.lst xs) => match L2.ixN xs.length k with | some j => some (M.set n (.lst (xs.set j v))) | none => none
    | _ => none
  | _, _ => none
def freeze (x : D) (M : Store) : Res D := match x with
  | .loc n => match M[n]? with
    | some (.lst xs) => .ok (.lst xs) (M.set n .dead)
    | some (.dic ks vs) => .ok (.dic ks vs) (M.set n .dead)
    | some (.obj c ns vs) => .ok (.obj c ns vs) (M.set n .dead)
    | _ => .bad
  | d => .ok d M
def argsOf (vs : List D) : List (Nat ⊕ D) → Option (List D)
  | [] => some []
  | .inl i :: as => match vs[i]?, argsOf vs as with
    | some v, some ws => some (v :: ws)
    | _, _ => none
  | .inr d :: as => (argsOf vs as).map (d :: ·)
def ndNone : D → Bool
  | .non => true | _ => false
def litems (M : Store) (x : D) : Option (List D) := match view M x with
  | .lst xs => some xs | _ => none
def allAlike (xs : List D) : Bool := xs.all fun x => xs.all (alike x)
def bools : List D → Option (List Bool)
  | [] => some []
  | .bl b :: xs => (bools xs).map (b :: ·)
  | _ :: _ => none
def intsD : List D → Option (List Int)
  | [] => some []
  | .int i :: xs => (intsD xs).map (i :: ·)
  | _ :: _ => none
def minI : List Int → Option Int
  | [] => none
  | x :: xs => some (xs.foldl (fun a b => if b < a then b else a) x)
def maxI : List Int → Option Int
  | [] => none
  | x :: xs => some (xs.foldl (fun a b => if b > a then b else a) x)
/-- may be shown -/
def showOk (d : D) : Bool := d.pure flatN && PyData.showable d.pd && !PyData.hasDict d.pd && decide ((PyData.shown d.pd).length ≤ line)
def bfun (f : BF) (own : Bool) (xs : List D) (M : Store) : Res D :=
  match f, xs with
  | .len, [x] => match view M x with
    | .tup xs => .ok (.int xs.length) M | .lst xs => .ok (.int xs.length) M
    | .str s => if s.length ≤ line then .ok (.int s.length) M else .bad
    | _ => .bad
  | .sorted, [x] => match view M x with
    | .lst xs => if D.pureL flatN xs && allAlike xs && xs.all (fun x => !ndNone x) then newL own (xs.mergeSort dle) M else .bad
    | .tup xs => if D.pureL flatN xs && allAlike xs && xs.all (fun x => !ndNone x) then newL own (xs.mergeSort dle) M else .bad
    | _ => .bad
  | .tuple, [x] => match items M x with | some xs => newT xs M | none => .bad
  | .list, [x] => match view M x with
    | .tup xs => newL own xs M | .lst xs => newL own xs M | _ => .bad
  | .all, [x] => match (litems M x).bind bools with | some bs => .ok (.bl (bs.all id)) M | none => .bad
  | .any, [x] => match (litems M x).bind bools with | some bs => .ok (.bl (bs.any id)) M | none => .bad
  | .sum, [x] => match (items M x).bind intsD with | some ns => .ok (.int ns.sum) M | none => .bad
  | .abs, [.int i] => .ok (.int (if i < 0 then -i else i)) M
  | .min2, [.int i, .int j] => .ok (.int (if j < i then j else i)) M
  | .max2, [.int i, .int j] => .ok (.int (if j > i then j else i)) M
  | .minL, [x] => match ((litems M x).bind intsD).bind minI with | some i => .ok (.int i) M | none => .bad
  | .maxL, [x] => match ((litems M x).bind intsD).bind maxI with | some i => .ok (.int i) M | none => .bad
  | .int, [.int i] => .ok (.int i) M
  | .int, [.bl b] => .ok (.int (if b then 1 else 0)) M
  | .str, [x] => match view M x with
    | .int i => if i.natAbs.log2 < 1920 then .ok (.str (toString i)) M else .bad
    | .tup xs => if showOk (.tup xs) then .ok (.str (PyData.shown (D.pd (.tup xs)))) M else .bad
    | .lst xs => if showOk (.lst xs) then .ok (.str (PyData.shown (D.pd (.lst xs)))) M else .bad
    | _ => .bad
  | .repr, [x] => match view M x with
    | .int i => if i.natAbs.log2 < 1920 then .ok (.str (toString i)) M else .bad
    | .tup xs => if showOk (.tup xs) then .ok (.str (PyData.shown (D.pd (.tup xs)))) M else .bad
    | .lst xs => if showOk (.lst xs) then .ok (.str (PyData.shown (D.pd (.lst xs)))) M else .bad
    | _ => .bad
  | .bool, [x] => match view M x with
    | .int i => .ok (.bl (i != 0)) M | .bl b => .ok (.bl b) M | .lst xs => .ok (.bl (!xs.isEmpty)) M | _ => .bad
  | _, _ => .bad
def lenB (v : D) (M : Store) : Res D := match v with
  | .int n => if 0 ≤ n ∧ n < 4611686018427387904 then .ok (.int n) M else .bad
  | _ => .bad
def strB (v : D) (M : Store) : Res D := match v with
  | .str s => .ok (.str s) M
  | _ => .bad
def boolB (v : D) (M : Store) : Res D := match v with
  | .int n => if 0 ≤ n ∧ n < 4611686018427387904 then .ok (.bl (n != 0)) M else .bad
  | _ => .bad
def bfD (E : Fe) (f : BF) (own : Bool) (vs : List D) (M : Store) : Res D :=
  match f, vs with
  | .len, [x] => match view M x with
    | .obj c _ _ => match E.meth c sLen with | some g => (noexc (E.call g [x] M)).bind lenB | none => .bad
    | _ => bfun .len own [x] M
  | .str, [x] => match view M x with
    | .obj c _ _ => match E.meth c sStr with | some g => (noexc (E.call g [x] M)).bind strB | none => .bad
    | _ => bfun .str own [x] M
  | .repr, [x] => match view M x with
    | .obj c _ _ => match E.meth c sRepr with | some g => (noexc (E.call g [x] M)).bind strB | none => .bad
    | _ => bfun .repr own [x] M
  | .bool, [x] => match view M x with
    | .obj c _ _ => match E.meth c sLen with | some g => (noexc (E.call g [x] M)).bind boolB | none => .bad
    | _ => bfun .bool own [x] M
  | f, vs => bfun f own vs M
def bmK : BM → D → Bool
  | .join, .str _ => true
  | .get, .dic _ _ => true
  | .get2, .dic _ _ => true
  | .join, _ => false
  | .get, _ => false
  | .get2, _ => false
  | _, .lst _ => true
  | _, _ => false
def strsD : List D → Option (List Str)
  | [] => some []
  | .str s :: xs => (strsD xs).map (s :: ·)
  | _ :: _ => none
def bmeth (m : BM) (own : Bool) (x : D) (as : List D) (M : Store) : Res D :=
  match m, x, as with
  | .append, .loc n, [v] => match M[n]? with
    | some (.lst xs) => if xs.length < line then .ok .non (M.set n (.lst (xs ++ [v]))) else .bad
    | _ => .bad
  | .extend, .loc n, [v] => match M[n]?, view M v with
    | some (.lst xs), .lst zs => if xs.length + zs.length ≤ line then .ok .non (M.set n (.lst (xs ++ zs))) else .bad
    | _, _ => .bad
  | .pop, .loc n, [] => match M[n]? with
    | some (.lst xs) => match xs[xs.length - 1]? with
      | some v => .ok v (M.set n (.lst xs.dropLast))
      | none => .bad
    | _ => .bad
  | .clear, .loc n, [] => match M[n]? with
    | some (.lst xs) => .ok .non (M.set n (.lst []))
    | _ => .bad
  | .index, x, [v] => match items M x with
    | some xs => if v.pure flatN && D.pureL flatN xs then (match xs.findIdx? (fun y => peq y v) with | some j => .ok (.int j) M | none => .bad) else .bad
    | none => .bad
  | .count, x, [v] => match items M x with
    | some xs => if v.pure flatN && D.pureL flatN xs then .ok (.int (xs.countP fun y => peq y v)) M else .bad
    | none => .bad
  | .get, x, [k] => match view M x with
    | .dic ks vs => if k.key 8 then .ok ((findK k ks vs).getD .non) M else .bad
    | _ => .bad
  | .join, .str a, [v] => match (items M v).bind strsD with
    | some ys => if (ys.map (·.length)).sum + ys.length * a.length ≤ line then .ok (.str (PySem.Str.join a ys)) M else .bad
    | none => .bad
  | .get2, x, [k, d] => match view M x with
    | .dic ks vs => if k.key 8 then .ok ((findK k ks vs).getD d) M else .bad
    | _ => .bad
  | _, _, _ => .bad
def rangeD (lo : Int) : Nat → List D
  | 0 => []
  | n + 1 => .int lo :: rangeD (lo + 1) n
def enumD (i : Int) : List D → List D
  | [] => []
  | x :: xs => .tup [.int i, x] :: enumD (i + 1) xs
def zipD : List D → List D → List D
  | x :: xs, y :: ys => .tup [x, y] :: zipD xs ys
  | _, _ => []
def isi1 (M : Store) (x : D) : TyC → Bool
  | .int => match x with | .int _ => true | .bl _ => true | _ => false
  | .bool => match x with | .bl _ => true | _ => false
  | .str => match x with | .str _ => true | _ => false
  | .tuple => match x with | .tup _ => true | _ => false
  | .list => match view M x with | .lst _ => true | _ => false
  | .own c => match view M x with | .obj c' _ _ => c == c' | _ => false

/-- a part of an f-string -/
def fmtT : D → Option Str
  | .str y => if y.length ≤ line then some y else none
  | .int i => if i.natAbs.log2 < 1920 then some (toString i) else none
  | _ => none
/-- the walk of a list -/
def loopE (f : D → Store → Res Unit) (still : Store → Bool) : List D → Store → Res Unit
  | [], M => .ok () M
  | x :: xs, M => (f x M).bind fun _ M' => if still M' then loopE f still xs M' else .bad
/-- an item put behind the list at n -/
def pushE (n : Nat) (x : D) (M : Store) : Res Unit := match M[n]? with
  | some (.lst acc) => if acc.length < line then .ok () (M.set n (.lst (acc ++ [x]))) else .bad
  | _ => .bad
/-- the list made -/
def doneL (own : Bool) (M1 M4 : Store) : Res D := match M4[M1.length]? with
  | some (.lst xs) => if own then .ok (.loc M1.length) M4 else trunc M1 (.lst xs) (M4.set M1.length .dead)
  | _ => .bad
def still (M0 : Store) (x : D) (M : Store) : Bool := match x with
  | .loc n => decide (M[n]? = M0[n]?)
  | _ => true
/-- behind an __init__ -/
def madeE (own : Bool) (M1 : Store) (r : D) (M2 : Store) : Res D := match r, M2[M1.length]? with
  | .non, some (.obj c' ns vs) => if own then .ok (.loc M1.length) M2 else trunc M1 (.obj c' ns vs) (M2.set M1.length .dead)
  | _, _ => .bad
/-- a new instance -/
def makeE (E : Fe) (own : Bool) (c : Nat) (as : List (Nat ⊕ D)) (vs : List D) (M1 : Store) : Res D := match E.meth c sInit, argsOf (.loc M1.length :: vs) as with
  | some f, some ws => (E.call f ws (M1 ++ [.obj c [] []])).bind (madeE own M1)
  | _, _ => .bad
/-- the def behind o.m -/
def methOf (E : Fe) (M : Store) (x : D) (m : Str) : Option Nat := match view M x with
  | .obj c ns _ => if ns.contains m then none else E.meth c m
  | _ => none
section
variable (E : Fe)
mutual
def evE : CE → Loc → Store → Res D
  | .slot i, L, M => match L[i]? with
    | some (some d) => .ok d M
    | _ => .bad
  | .lit d, _, M => .ok d M
  | .glob _ d, _, M => .ok d M
  | .tup es, L, M => (evEs es L M).bind newT
  | .lst own es, L, M => (evEs es L M).bind (newL own)
  | .star _, _, _ => .bad
  | .bin op own a b, L, M => (evE a L M).bind fun x M1 => (evE b L M1).bind fun y M2 => binE E op own x y M2
  | .neg a, L, M => (evE a L M).bind fun x M1 => match x with | .int i => .ok (.int (-i)) M1 | _ => .bad
  | .not a, L, M => (evE a L M).bind fun x M1 => match truth M1 x with | some b => .ok (.bl (!b)) M1 | none => .bad
  | .cmp op a b, L, M => (evE a L M).bind fun x M1 => (evE b L M1).bind fun y M2 => cmpE E op x y M2
  | .cmp2 op op' a b c, L, M => (evE a L M).bind fun x M1 => (evE b L M1).bind fun y M2 => (cmpE E op x y M2).bind fun r M3 => match r with
    | .bl true => (evE c L M3).bind fun z M4 => cmpE E op' y z M4
    | .bl false => .ok (.bl false) M3
    | _ => .bad
  | .conj es, L, M => evConj es L M
  | .disj es, L, M => evDisj es L M
  | .ite c a b, L, M => (evE c L M).bind fun x M1 => match truth M1 x with
    | some true => evE a L M1
    | some false => evE b L M1
    | none => .bad
  | .sub a i, L, M => (evE a L M).bind fun x M1 => (evE i L M1).bind fun y M2 => subE E x y M2
  | .cut own a lo hi, L, M => (evE a L M).bind fun x M1 => (evO lo L M1).bind fun l M2 => (evO hi L M2).bind fun h M3 => slice own x l h M3
  | .rev own a, L, M => (evE a L M).bind fun x M1 => match view M1 x with
    | .lst xs => newL own xs.reverse M1
    | _ => .bad
  | .fld a f, L, M => (evE a L M).bind fun x M1 => fldE E x f M1
  | .prop a f, L, M => (evE a L M).bind fun x M1 => match view M1 x with
    | .obj c _ _ => match E.prop c f with | some g => noexc (E.call g [x] M1) | none => .bad
    | _ => .bad
  | .call f es ks as, L, M => (evEs es L M).bind fun vs M1 => (evEs ks L M1).bind fun us M2 => match argsOf (vs ++ us) as with
    | some ws => E.call f ws M2
    | none => .bad
  | .meth m o es ks as, L, M => (evE o L M).bind fun x M0 => match methOf E M0 x m with
    | some f => (evEs es L M0).bind fun vs M1 => (evEs ks L M1).bind fun us M2 => match argsOf (x :: vs ++ us) as with
      | some ws => E.call f ws M2
      | none => .bad
    | none => .bad
  | .mk own c es ks as, L, M => (evEs es L M).bind fun vs M0 => (evEs ks L M0).bind fun us M1 => makeE E own c as (vs ++ us) M1
  | .mkL own i es as, L, M => match L[i]? with
    | some (some (.cls c)) => if (E.meth c sInit).isSome then (evEs es L M).bind fun vs M1 => makeE E own c as vs M1 else .bad
    | _ => .bad
  | .cmet c m es as, L, M => match E.cmet c m with
    | some f => (evEs es L M).bind fun vs M1 => match argsOf (.cls c :: vs) as with
      | some ws => E.call f ws M1
      | none => .bad
    | none => .bad
  | .bf f own es, L, M => (evEs es L M).bind fun vs M1 => bfD E f own vs M1
  | .bm m own o es, L, M => (evE o L M).bind fun x M1 => if bmK m (view M1 x) then (evEs es L M1).bind fun vs M2 => bmeth m own x vs M2 else .bad
  | .comp own gs vars e, L, M => noexc (evC gs own (fun L1 M1 => evE e L1 M1) (wipeL L vars) L M)
  | .frz e, L, M => (evE e L M).bind freeze
  | .rng es, L, M => (evEs es L M).bind fun vs M1 => match vs with
    | [.int n] => if n < 2 ^ 62 ∧ -(2 ^ 62) ≤ n then .ok (.lst (rangeD 0 n.toNat)) M1 else .bad
    | [.int a, .int b] => if a < 2 ^ 62 ∧ -(2 ^ 62) ≤ a ∧ b < 2 ^ 62 ∧ -(2 ^ 62) ≤ b then .ok (.lst (rangeD a (b - a).toNat)) M1 else .bad
    | _ => .bad
  | .enum e, L, M => (evE e L M).bind fun x M1 => match x with
    | .lst xs => .ok (.lst (enumD 0 xs)) M1
    | _ => .bad
  | .zip a b, L, M => (evE a L M).bind fun x M1 => (evE b L M1).bind fun y M2 => match x, y with
    | .lst xs, .lst ys => .ok (.lst (zipD xs ys)) M2
    | .tup xs, .tup ys => .ok (.lst (zipD xs ys)) M2
    | _, _ => .bad
  | .fmt es, L, M => evFm es L M Str.empty
  | .isi a cs, L, M => (evE a L M).bind fun x M1 => .ok (.bl (cs.any (isi1 M1 x))) M1
def evFm : List CE → Loc → Store → Str → Res D
  | [], _, M, acc => .ok (.str acc) M
  | e :: es, L, M, acc => (evE e L M).bind fun x M1 => match fmtT x with
    | some y => if (acc ++ y).length ≤ line then evFm es L M1 (acc ++ y) else .bad
    | none => .bad
def evO : Option CE → Loc → Store → Res (Option Int)
  | none, _, M => .ok none M
  | some e, L, M => (evE e L M).bind fun x M1 => match x with
    | .int i => .ok (some i) M1
    | _ => .bad
def evEs : List CE → Loc → Store → Res (List D)
  | [], _, M => .ok [] M
  | .star e :: es, L, M => (evE e L M).bind fun x M1 => match items M1 x with
    | some xs => (evEs es L M1).bind fun ys M2 => .ok (xs ++ ys) M2
    | none => .bad
  | e :: es, L, M => (evE e L M).bind fun x M1 => (evEs es L M1).bind fun ys M2 => .ok (x :: ys) M2
def evConj : List CE → Loc → Store → Res D
  | [], _, _ => .bad
  | [e], L, M => evE e L M
  | e :: es, L, M => (evE e L M).bind fun x M1 => match truth M1 x with
    | some true => evConj es L M1
    | some false => .ok x M1
    | none => .bad
def evDisj : List CE → Loc → Store → Res D
  | [], _, _ => .bad
  | [e], L, M => evE e L M
  | e :: es, L, M => (evE e L M).bind fun x M1 => match truth M1 x with
    | some true => .ok x M1
    | some false => evDisj es L M1
    | none => .bad
/-- the first source is walked where the comprehension stands (L0), the rest within -/
def evC : List CG → Bool → (Loc → Store → Res D) → Loc → Loc → Store → Res D
  | [], _, _, _, _, _ => .bad
  | .mk p it ifs :: gs, own, e, L, L0, M => (evE it L0 M).bind fun d M1 => match items M1 d with
    | some xs => (loopE (fun x M2 => match Pat.set p x M2 L with
        | some L1 => (evIfs ifs L1 M2).bind fun b M3 => if b then evGs gs e L1 M3 M1.length else .ok () M3
        | none => .bad) (still M1 d) xs (M1 ++ [.lst []])).bind fun _ M4 => doneL own M1 M4
    | none => .bad
def evGs : List CG → (Loc → Store → Res D) → Loc → Store → Nat → Res Unit
  | [], e, L, M, n => (e L M).bind fun x M1 => pushE n x M1
  | .mk p it ifs :: gs, e, L, M, n => (evE it L M).bind fun d M1 => match items M1 d with
    | some xs => loopE (fun x M2 => match Pat.set p x M2 L with
        | some L1 => (evIfs ifs L1 M2).bind fun b M3 => if b then evGs gs e L1 M3 n else .ok () M3
        | none => .bad) (still M1 d) xs M1
    | none => .bad
def evIfs : List CE → Loc → Store → Res Bool
  | [], _, M => .ok true M
  | c :: cs, L, M => (evE c L M).bind fun x M1 => match truth M1 x with
    | some true => evIfs cs L M1
    | some false => .ok false M1
    | none => .bad
end
def loopS (body : D → Loc → Store → SR) (still : Store → Bool) : List D → Loc → Store → SR
  | [], L, M => .nx L M
  | x :: xs, L, M => match body x L M with
    | .nx L1 M1 => if still M1 then loopS body still xs L1 M1 else .bad
    | .ct L1 M1 => if still M1 then loopS body still xs L1 M1 else .bad
    | .bk L1 M1 => .nx L1 M1
    | r => r
def whileS (c : Loc → Store → Res D) (body : Loc → Store → SR) : Nat → Loc → Store → SR
  | 0, _, _ => .bad
  | n + 1, L, M => (c L M).toS L fun x M1 => match truth M1 x with
    | some true => match body L M1 with
      | .nx L1 M2 => whileS c body n L1 M2
      | .ct L1 M2 => whileS c body n L1 M2
      | .bk L1 M2 => .nx L1 M2
      | r => r
    | some false => .nx L M1
    | none => .bad
def turns : Nat := 2 ^ 40
/-- a op= b of numbers -/
def augI (op : BOp) (a : Int) (y : D) : Option D := match op, y with
  | .add, .int b => some (.int (a + b))
  | .sub, .int b => some (.int (a - b))
  | _, _ => none
def asgT (t : CT) (v : D) (L : Loc) (M : Store) : SR := match t with
  | .pat p => match Pat.set p v M L with
    | some L1 => .nx L1 M
    | none => .bad
  | .sub o i => (evE E o L M).toS L fun x M1 => (evE E i L M1).toS L fun y M2 => match setIx x y v M2 with
    | some M3 => .nx L M3
    | none => .bad
  | .fld o f => (evE E o L M).toS L fun x M1 => match setFld E x f v M1 with
    | some M2 => .nx L M2
    | none => .bad
mutual
def evS : CS → Loc → Store → SR
  | .exp e, L, M => (evE E e L M).toS L fun _ M1 => .nx L M1
  | .asg t e, L, M => (evE E e L M).toS L fun v M1 => asgT E t v L M1
  | .ret e, L, M => (evE E e L M).toS L fun v M1 => .rt v M1
  | .retN, _, M => .rt .non M
  | .ite c a b, L, M => (evE E c L M).toS L fun x M1 => match truth M1 x with
    | some true => evB a L M1
    | some false => evB b L M1
    | none => .bad
  | .loop p it body, L, M => (evE E it L M).toS L fun d M1 => match items M1 d with
    | some xs => loopS (fun x L1 M2 => match Pat.set p x M2 L1 with
        | some L2 => evB body L2 M2
        | none => .bad) (still M1 d) xs L M1
    | none => .bad
  | .whl c body, L, M => whileS (evE E c) (evB body) turns L M
  | .brk, L, M => .bk L M
  | .cnt, L, M => .ct L M
  | .pass, L, M => .nx L M
  | .never, _, _ => .bad
  | .aug i op e, L, M => match L[i]? with
    | some (some (.int a)) => (evE E e L M).toS L fun y M1 => match augI op a y with
      | some z => .nx (L.set i (some z)) M1
      | none => .bad
    | _ => .bad
  | .augF o f op e, L, M => (evE E o L M).toS L fun x M1 => (fldE E x f M1).toS L fun u M2 => match u with
    | .int a => (evE E e L M2).toS L fun y M3 => match augI op a y with
      | some z => match setFld E x f z M3 with
        | some M5 => .nx L M5
        | none => .bad
      | none => .bad
    | _ => .bad
  | .fz i, L, M => match L[i]? with
    | some (some x) => (freeze x M).toS L fun v M1 => .nx (L.set i (some v)) M1
    | _ => .bad
  | .mtch e cs, L, M => (evE E e L M).toS L fun x M1 => match x with
    | .str s => evK cs s L M1
    | _ => .bad
def evB : List CS → Loc → Store → SR
  | [], L, M => .nx L M
  | s :: ss, L, M => (evS s L M).bind fun L1 M1 => evB ss L1 M1
def evK : List CK → Str → Loc → Store → SR
  | [], _, L, M => .nx L M
  | .mk ps wild body :: ks, s, L, M => if wild || ps.contains s then evB body L M else evK ks s L M
end
end

/-- a def: how many parameters, how many slots, its body -/
structure Fn where
  np : Nat
  ns : Nat
  body : List CS
/-- a program: defs by numbers, methods -/
structure Prg where
  fn : Nat → Option Fn
  meth : Nat → Str → Option Nat
  fld : Nat → Str → Bool
  prop : Nat → Str → Option Nat
  cmet : Nat → Str → Option Nat
def outOf (M0 : Store) : SR → Res D
  | .nx _ M => trunc M0 .non M
  | .rt v M => trunc M0 v M
  | .exc x _ M => .exc x M
  | _ => .bad
def callN (G : Prg) : Nat → Nat → List D → Store → Res D
  | 0, _, _, _ => .bad
  | k + 1, f, as, M => match G.fn f with
    | some d => if as.length = d.np then outOf M (evB ⟨callN G k, G.meth, G.fld, G.prop, G.cmet⟩ d.body (as.map some ++ List.replicate (d.ns - d.np) none) M) else .bad
    | none => .bad
end Lc
end

section
set_option autoImplicit false
set_option linter.all false
set_option Elab.async false
set_option maxRecDepth 100000
/-! Lc: what stands for what. -/
namespace Lc
open PySem L2 PySem.Spec PyProof.Rows

/-- the frozen part of the heap; where the places of the store lie -/
structure Wd where
  F : Hp
  ρ : List Addr
/-- what is known of the text: the written part, the classes' addresses -/
structure Tx where
  K : PySem.W.Frag
  w : World
  cA : Nat → Addr
def HDic (w : World) (a : Addr) (kvs : List (NestedKey × Addr × V)) : HO := .ext fun h => ∃ o es ep, h.get? a = some o ∧ o.ExactDict ∧ o.data = .dict es ep ∧
  Paired (fun (p : NestedKey × Addr × V) (e : DictEntry) => e.hash = p.1.hash w ∧ e.key = .ref p.2.1 ∧ RelV p.2.2 e.val) kvs es.toList
mutual
def nkey : D → NestedKey
  | .int i => .num i | .bl b => .num (if b then 1 else 0) | .str s => .text s | .tup xs => .tup (nkeyL xs)
  | _ => .none
def nkeyL : List D → List NestedKey
  | [] => []
  | x :: xs => nkey x :: nkeyL xs
end
/-- a written dict, or one of ours, with number and text keys -/
def DKs (T : Tx) (F : Hp) (a : Addr) (kvs : List (Key × V)) : Prop := F a = some (.dK kvs)
/-- a tuple, known to the object -/
def TF (us : Array Value) (n : Nat) (vs : List V) : HO := .frz { cls := .type "tuple", data := .seq us n } (.tup vs)
/-- a tuple of ours (so without a dict), or one of the module's -/
def TupAt (K : PySem.W.Frag) (F : Hp) (a : Addr) (vs : List V) : Prop := (∃ us n, F a = some (TF us n vs)) ∨
  ∃ (o : Obj) (its : Array Value) (n : Nat), K.lookup a = some o ∧ o.cls = .type "tuple" ∧ o.dict = none ∧ o.data = .seq its n ∧ its.size ≤ sizeLine ∧ Vals vs its.toList
theorem TupAt.sqT {K : PySem.W.Frag} {F : Hp} {a : Addr} {vs : List V} (h : TupAt K F a vs) : SqT K F a vs := by
  rcases h with ⟨us, n, h⟩ | ⟨o, its, n, h1, h2, _, h4, h5, h6⟩
  · exact .inl (.inr ⟨_, h⟩)
  · exact .inr ⟨o, its, n, h1, h2, h4, h5, h6⟩
theorem TupAt.mono {K : PySem.W.Frag} {F F' : Hp} {a : Addr} {vs : List V} (e : Same F F') (h : TupAt K F a vs) : TupAt K F' a vs := by
  rcases h with ⟨us, n, h⟩ | h
  · exact .inl ⟨us, n, e _ _ h⟩
  · exact .inr h
mutual
inductive RepD (T : Tx) (ω : Wd) : D → V → Prop
  | non : RepD T ω .non .non
  | bl (b : Bool) : RepD T ω (.bl b) (.bl b)
  | int (i : Int) : RepD T ω (.int i) (.int i)
  | str (s : Str) : RepD T ω (.str s) (.str s)
  | tup {a : Addr} {xs : List D} {vs : List V} : TupAt T.K ω.F a vs → RepL T ω xs vs → RepD T ω (.tup xs) (.ref a)
  | lst {a : Addr} {xs : List D} {vs : List V} : SqL T.K ω.F a vs → RepL T ω xs vs → RepD T ω (.lst xs) (.ref a)
  | dicK {a : Addr} {ks vs : List D} {kvs : List (Key × V)} : DKs T ω.F a kvs → RepL T ω ks (kvs.map fun p => kV p.1) → RepL T ω vs (kvs.map (·.2)) → RepD T ω (.dic ks vs) (.ref a)
  | dicT {a : Addr} {ks vs : List D} {kvs : List (NestedKey × Addr × V)} : ω.F a = some (HDic T.w a kvs) → nkeyL ks = kvs.map (·.1) → RepL T ω ks (kvs.map fun p => V.ref p.2.1) → RepL T ω vs (kvs.map (·.2.2)) → RepD T ω (.dic ks vs) (.ref a)
  | obj {a dx : Addr} {c : Nat} {ns : List Str} {vs : List D} {ws : List V} : ω.F a = some (.ins (T.cA c) dx (ns.zip ws)) → ω.F dx = some (.own a) → ns.length = ws.length → RepL T ω vs ws → RepD T ω (.obj c ns vs) (.ref a)
  | loc {n : Nat} {a : Addr} : ω.ρ[n]? = some a → RepD T ω (.loc n) (.ref a)
  | cls (c : Nat) : RepD T ω (.cls c) (.ref (T.cA c))
inductive RepL (T : Tx) (ω : Wd) : List D → List V → Prop
  | nil : RepL T ω [] []
  | cons {d : D} {ds : List D} {v : V} {vs : List V} : RepD T ω d v → RepL T ω ds vs → RepL T ω (d :: ds) (v :: vs)
end
section
variable {T : Tx} {ω ω' : Wd}
theorem RepL.length : ∀ {xs : List D} {vs : List V}, RepL T ω xs vs → xs.length = vs.length
  | _, _, .nil => rfl
  | _, _, .cons _ t => by rw [List.length_cons, List.length_cons, t.length]
theorem RepL.append : ∀ {xs ys : List D} {vs ws : List V}, RepL T ω xs vs → RepL T ω ys ws → RepL T ω (xs ++ ys) (vs ++ ws)
  | _, _, _, _, .nil, s => s
  | _, _, _, _, .cons r t, s => .cons r (t.append s)
theorem RepL.get : ∀ {xs : List D} {vs : List V} {i : Nat} {d : D}, RepL T ω xs vs → xs[i]? = some d → ∃ v, vs[i]? = some v ∧ RepD T ω d v
  | _, _, _, _, .nil, e => by simp at e
  | _, _, 0, _, .cons r _, e => by simp at e; subst e; exact ⟨_, rfl, r⟩
  | _, _, i + 1, _, .cons _ t, e => by
    obtain ⟨v, h1, h2⟩ := t.get (i := i) (by simpa using e)
    exact ⟨v, by simpa using h1, h2⟩
theorem RepL.getV : ∀ {xs : List D} {vs : List V} {i : Nat} {v : V}, RepL T ω xs vs → vs[i]? = some v → ∃ d, xs[i]? = some d ∧ RepD T ω d v
  | _, _, _, _, .nil, e => by simp at e
  | _, _, 0, _, .cons r _, e => by simp at e; subst e; exact ⟨_, rfl, r⟩
  | _, _, i + 1, _, .cons _ t, e => by
    obtain ⟨v, h1, h2⟩ := t.getV (i := i) (by simpa using e)
    exact ⟨v, by simpa using h1, h2⟩
theorem RepL.take : ∀ {xs : List D} {vs : List V} (n : Nat), RepL T ω xs vs → RepL T ω (xs.take n) (vs.take n)
  | _, _, 0, _ => .nil
  | _, _, _ + 1, .nil => .nil
  | _, _, n + 1, .cons r t => .cons r (t.take n)
theorem RepL.drop : ∀ {xs : List D} {vs : List V} (n : Nat), RepL T ω xs vs → RepL T ω (xs.drop n) (vs.drop n)
  | _, _, 0, r => r
  | _, _, _ + 1, .nil => .nil
  | _, _, n + 1, .cons r t => t.drop n
theorem RepL.set {d : D} {v : V} (r : RepD T ω d v) : ∀ {xs : List D} {vs : List V} (i : Nat), RepL T ω xs vs → RepL T ω (xs.set i d) (vs.set i v)
  | _, _, _, .nil => .nil
  | _, _, 0, .cons _ t => .cons r t
  | _, _, i + 1, .cons q t => .cons q (RepL.set r i t)

/-- the frozen grows, the places grow -/
structure Le (ω ω' : Wd) : Prop where
  F : Same ω.F ω'.F
  ρ : ω.ρ <+: ω'.ρ
theorem Le.refl (ω : Wd) : Le ω ω := ⟨Same.refl _, List.prefix_refl _⟩
theorem Le.trans {a b c : Wd} (h : Le a b) (k : Le b c) : Le a c := ⟨h.F.trans k.F, h.ρ.trans k.ρ⟩
theorem sqT_same {K : PySem.W.Frag} {H H' : Hp} {a : Addr} {xs : List V} (e : Same H H') (h : SqT K H a xs) : SqT K H' a xs := by
  rcases h with (h | ⟨o, h⟩) | h
  · exact .inl (.inl (e _ _ h))
  · exact .inl (.inr ⟨o, e _ _ h⟩)
  · exact .inr h
theorem prefix_get {α : Type} {l l' : List α} {n : Nat} {a : α} (p : l <+: l') (h : l[n]? = some a) : l'[n]? = some a := by
  obtain ⟨t, rfl⟩ := p
  rw [List.getElem?_append_left (List.getElem?_eq_some_iff.mp h).1]
  exact h
mutual
theorem RepD.mono (l : Le ω ω') : ∀ {d : D} {v : V}, RepD T ω d v → RepD T ω' d v
  | _, _, .non => .non
  | _, _, .bl b => .bl b
  | _, _, .int i => .int i
  | _, _, .str s => .str s
  | _, _, .tup h r => .tup (h.mono l.F) (RepL.mono l r)
  | _, _, .lst h r => .lst (l.F.seq h) (RepL.mono l r)
  | _, _, .dicK h r s => .dicK (l.F _ _ h) (RepL.mono l r) (RepL.mono l s)
  | _, _, .dicT h e r s => .dicT (l.F _ _ h) e (RepL.mono l r) (RepL.mono l s)
  | _, _, .obj h e z r => .obj (l.F _ _ h) (l.F _ _ e) z (RepL.mono l r)
  | _, _, .loc h => .loc (prefix_get l.ρ h)
  | _, _, .cls c => .cls c
theorem RepL.mono (l : Le ω ω') : ∀ {d : List D} {v : List V}, RepL T ω d v → RepL T ω' d v
  | _, _, .nil => .nil
  | _, _, .cons r t => .cons (RepD.mono l r) (RepL.mono l t)
end
mutual
/-- what names only places below n is there with fewer places -/
theorem RepD.cut (n : Nat) : ∀ {d : D} {v : V}, RepD T ω d v → d.under n = true → RepD T ⟨ω.F, ω.ρ.take n⟩ d v
  | _, _, .non, _ => .non
  | _, _, .bl b, _ => .bl b
  | _, _, .int i, _ => .int i
  | _, _, .str s, _ => .str s
  | _, _, .tup h r, u => .tup h (RepL.cut n r (by simpa [D.under] using u))
  | _, _, .lst h r, u => .lst h (RepL.cut n r (by simpa [D.under] using u))
  | _, _, .dicK h r s, u => by
    have u' := (Bool.and_eq_true_iff.mp (by simpa only [D.under] using u))
    exact .dicK h (RepL.cut n r u'.1) (RepL.cut n s u'.2)
  | _, _, .dicT h e r s, u => by
    have u' := (Bool.and_eq_true_iff.mp (by simpa only [D.under] using u))
    exact .dicT h e (RepL.cut n r u'.1) (RepL.cut n s u'.2)
  | _, _, .obj h e z r, u => .obj h e z (RepL.cut n r (by simpa [D.under] using u))
  | _, _, .loc (n := m) h, u => .loc (by
    have u' : m < n := by simpa [D.under] using u
    rw [List.getElem?_take, if_pos u']
    exact h)
  | _, _, .cls c, _ => .cls c
theorem RepL.cut (n : Nat) : ∀ {d : List D} {v : List V}, RepL T ω d v → D.underL n d = true → RepL T ⟨ω.F, ω.ρ.take n⟩ d v
  | _, _, .nil, _ => .nil
  | _, _, .cons r t, u => by
    have u' := (Bool.and_eq_true_iff.mp (by simpa only [D.underL] using u))
    exact .cons (RepD.cut n r u'.1) (RepL.cut n t u'.2)
end
end

/-- what stands at a place -/
inductive RepO (T : Tx) (ω : Wd) (H : Hp) (a : Addr) : AO → Prop
  | lst {xs : List D} {vs : List V} : H a = some (.lst vs) → RepL T ω xs vs → RepO T ω H a (.lst xs)
  | dicK {ks vs : List D} {kvs : List (Key × V)} : H a = some (.dK kvs) → RepL T ω ks (kvs.map fun p => kV p.1) → RepL T ω vs (kvs.map (·.2)) → RepO T ω H a (.dic ks vs)
  | dicT {ks vs : List D} {kvs : List (NestedKey × Addr × V)} : H a = some (HDic T.w a kvs) → nkeyL ks = kvs.map (·.1) → RepL T ω ks (kvs.map fun p => V.ref p.2.1) → RepL T ω vs (kvs.map (·.2.2)) → RepO T ω H a (.dic ks vs)
  | obj {dx : Addr} {c : Nat} {ns : List Str} {vs : List D} {ws : List V} : H a = some (.ins (T.cA c) dx (ns.zip ws)) → H dx = some (.own a) → ω.F dx = none → ns.length = ws.length → RepL T ω vs ws → RepO T ω H a (.obj c ns vs)
/-- the store as it lies -/
structure RepM (T : Tx) (ω : Wd) (M : Store) (H : Hp) : Prop where
  F : Same ω.F H
  len : ω.ρ.length = M.length
  at_ : ∀ (n : Nat) (o : AO), M[n]? = some o → o ≠ .dead → ∃ a, ω.ρ[n]? = some a ∧ ω.F a = none ∧ RepO T ω H a o
  inj : ∀ (n m : Nat) (a : Addr) (o o' : AO), ω.ρ[n]? = some a → ω.ρ[m]? = some a → M[n]? = some o → M[m]? = some o' → o ≠ .dead → o' ≠ .dead → n = m
/-- the slots as they stand -/
def RepS (T : Tx) (ω : Wd) (L : Loc) (σ : L2.St) : Prop := σ.length = L.length ∧ ∀ (i : Nat) (d : D), L[i]? = some (some d) → ∃ v, σ[i]? = some (some v) ∧ RepD T ω d v
section
variable {T : Tx} {ω ω' : Wd} {L : Loc} {σ : L2.St}
theorem RepS.mono (l : Le ω ω') (r : RepS T ω L σ) : RepS T ω' L σ := ⟨r.1, fun i d h => let ⟨v, a, b⟩ := r.2 i d h; ⟨v, a, b.mono l⟩⟩
theorem RepS.set {d : D} {v : V} (i : Nat) (r : RepS T ω L σ) (q : RepD T ω d v) : RepS T ω (L.set i (some d)) (σ.set i (some v)) := by
  refine ⟨by rw [List.length_set, List.length_set]; exact r.1, fun j e h => ?_⟩
  by_cases hj : i = j
  · subst hj
    by_cases hl : i < L.length
    · rw [List.getElem?_set_self hl] at h
      cases h
      exact ⟨v, List.getElem?_set_self (by rw [r.1]; exact hl), q⟩
    · rw [List.getElem?_eq_none (by rw [List.length_set]; omega)] at h
      cases h
  · rw [List.getElem?_set_ne hj] at h ⊢
    exact r.2 j e h
theorem RepS.unset (i : Nat) (r : RepS T ω L σ) : RepS T ω (L.set i none) (σ.set i none) := by
  refine ⟨by rw [List.length_set, List.length_set]; exact r.1, fun j e h => ?_⟩
  by_cases hj : i = j
  · subst hj
    by_cases hl : i < L.length
    · rw [List.getElem?_set_self hl] at h
      cases h
    · rw [List.getElem?_eq_none (by rw [List.length_set]; omega)] at h
      cases h
  · rw [List.getElem?_set_ne hj] at h ⊢
    exact r.2 j e h
theorem RepS.wipe (r : RepS T ω L σ) : ∀ vs : List Nat, RepS T ω (wipeL L vs) (L2.wipe σ vs)
  | [] => r
  | v :: vs => (RepS.wipe r vs).unset v
end

/-! ### readings -/
/-- an exception as it lies -/
def RepX (T : Tx) (ω : Wd) (x : Exn) (cls : Value) (d : Option Addr) (H : Hp) : Prop := False
section
variable (T : Tx) (W : WX) (σ : L2.St)
/-- behind a result: what is wanted of the value, the store, the world, the heap -/
def RP {α β : Type} (R : Wd → α → β → Prop) (ω : Wd) (r : Res α) (C : α → Store → Wd → Hp → β → Prop) : Prop := match r with
  | .ok a M => ∀ (ω' : Wd) (H' : Hp) (v : β), Le ω ω' → RepM T ω' M H' → R ω' a v → C a M ω' H' v
  | .exc x M => ∀ (ω' : Wd) (H' : Hp) (cls : Value) (d : Option Addr), Le ω ω' → RepM T ω' M H' → RepX T ω' x cls d H' → W cls d σ H'
  | .bad => False
end
section
variable {T : Tx} {W : WX} {σ : L2.St} {α β : Type} {R : Wd → α → β → Prop}
theorem RP.imp {ω : Wd} {r : Res α} {C C' : α → Store → Wd → Hp → β → Prop} (h : RP T W σ R ω r C) (k : ∀ a M ω' H' v, Le ω ω' → RepM T ω' M H' → R ω' a v → r = .ok a M → C a M ω' H' v → C' a M ω' H' v) : RP T W σ R ω r C' := by
  cases r with
  | ok a M => exact fun ω' H' v l m q => k a M ω' H' v l m q rfl (h ω' H' v l m q)
  | exc x M => exact h
  | bad => exact h
theorem RP.bind {γ δ : Type} {R' : Wd → γ → δ → Prop} {ω : Wd} {r : Res α} {f : α → Store → Res γ} {C : γ → Store → Wd → Hp → δ → Prop} (h : RP T W σ R' ω (r.bind f) C) :
    RP T W σ R ω r (fun a M ω' _ _ => RP T W σ R' ω' (f a M) fun c M' ω'' H' u => C c M' ω'' H' u) := by
  cases r with
  | ok a M =>
    intro ω' H' v l m q
    have h : RP T W σ R' ω (f a M) C := h
    cases e : f a M with
    | ok c M' =>
      rw [e] at h
      exact fun ω2 H2 u l2 m2 q2 => h ω2 H2 u (l.trans l2) m2 q2
    | exc x M' =>
      rw [e] at h
      exact fun ω2 H2 c d l2 m2 q2 => h ω2 H2 c d (l.trans l2) m2 q2
    | bad =>
      rw [e] at h
      exact h
  | exc x M => exact h
  | bad => exact h
end
section
variable (T : Tx) (W : WX) (E : Fe)
/-- an expression's reading by the interpreter -/
def tD (ce : CE) : TE := fun σ H Q => ∃ (ω : Wd) (L : Loc) (M : Store), RepS T ω L σ ∧ RepM T ω M H ∧ RP T W σ (RepD T) ω (evE E ce L M) fun _ _ _ H' v => Q v H'
def tDs (es : List CE) : TA := fun σ H Q => ∃ (ω : Wd) (L : Loc) (M : Store), RepS T ω L σ ∧ RepM T ω M H ∧ RP T W σ (RepL T) ω (evEs E es L M) fun _ _ _ H' v => Q v H'
end
theorem _root_.L2.PE.imp {X : Cx} {e : Expr} {t t' : TE} (h : PE X e t) (k : ∀ σ H Q, t' σ H Q → t σ H Q) : PE X e t' := ⟨fun pins s σ H Q I q => h.run pins s σ H Q I (k σ H Q q)⟩
theorem _root_.L2.PA.imp {X : Cx} {e : List Expr} {t t' : TA} (h : PA X e t) (k : ∀ σ H Q, t' σ H Q → t σ H Q) : PA X e t' := ⟨fun pos pins s σ H Q I q => h.run pos pins s σ H Q I (k σ H Q q)⟩

/-! ### heaps -/
/-- a new frozen thing -/
def Wd.put (ω : Wd) (a : Addr) (o : HO) : Wd := ⟨upd ω.F a o, ω.ρ⟩
section
variable {T : Tx} {ω : Wd} {M : Store} {H : Hp} {a : Addr} {o : HO}
theorem RepM.none (m : RepM T ω M H) (n : H a = none) : ω.F a = none := m.F.free n
theorem Le.put (n : ω.F a = none) : Le ω (ω.put a o) := ⟨fun b u e => by
  show upd ω.F a o b = some u
  rw [upd_ne (ne_of_none e n)]
  exact e, List.prefix_refl _⟩
theorem RepO.keep {H' : Hp} {ω' : Wd} {x : Addr} {q : AO} (r : RepO T ω H x q) (l : Le ω ω') (k : ∀ u, H x = some u → H' x = some u) (kd : ∀ y, H y = some (.own x) → H' y = some (.own x)) (kf : ∀ y, H y = some (.own x) → ω.F y = Option.none → ω'.F y = Option.none) : RepO T ω' H' x q := by
  cases r with
  | lst h s => exact .lst (k _ h) (s.mono l)
  | dicK h s t => exact .dicK (k _ h) (s.mono l) (t.mono l)
  | dicT h e s t => exact .dicT (k _ h) e (s.mono l) (t.mono l)
  | obj h e f z s => exact .obj (k _ h) (kd _ e) (kf _ e f) z (s.mono l)
/-- a new thing laid, frozen at once -/
theorem RepM.put (m : RepM T ω M H) (n : H a = Option.none) : RepM T (ω.put a o) M (upd H a o) := by
  have fn := m.none n
  refine ⟨fun b u e => ?_, m.len, fun k q e nd => ?_, m.inj⟩
  · show upd H a o b = some u
    by_cases hb : b = a
    · subst hb
      rw [upd_same]
      have e' : upd ω.F b o b = some u := e
      rw [upd_same] at e'
      exact e'
    · have e' : upd ω.F a o b = some u := e
      rw [upd_ne hb] at e' ⊢
      exact m.F _ _ e'
  · obtain ⟨x, h1, h2, h3⟩ := m.at_ k q e nd
    have hx : x ≠ a := by
      intro z
      subst z
      cases h3 with
      | lst h _ => rw [n] at h; cases h
      | dicK h _ _ => rw [n] at h; cases h
      | dicT h _ _ _ => rw [n] at h; cases h
      | obj h _ _ _ _ => rw [n] at h; cases h
    refine ⟨x, h1, ?_, h3.keep (Le.put fn) (fun u e => ?_) (fun y e => ?_) (fun y e f => ?_)⟩
    · show upd ω.F a o x = Option.none
      rw [upd_ne hx]
      exact h2
    · rw [upd_ne hx]
      exact e
    · rw [upd_ne (ne_of_none e n)]
      exact e
    · show upd ω.F a o y = Option.none
      rw [upd_ne (ne_of_none e n)]
      exact f
/-- a new thing laid, at a new place -/
theorem RepM.snoc {q : AO} (m : RepM T ω M H) (n : H a = Option.none) (r : ∀ ω', ω' = (⟨ω.F, ω.ρ ++ [a]⟩ : Wd) → RepO T ω' (upd H a o) a q) : RepM T ⟨ω.F, ω.ρ ++ [a]⟩ (M ++ [q]) (upd H a o) := by
  have fn := m.none n
  have le : Le ω ⟨ω.F, ω.ρ ++ [a]⟩ := ⟨Same.refl _, List.prefix_append _ _⟩
  have old : ∀ {k : Nat} {p : AO}, k < M.length → (M ++ [q])[k]? = some p → M[k]? = some p := fun {k p} hk e => by
    rw [List.getElem?_append_left hk] at e
    exact e
  have olda : ∀ {k : Nat} {b : Addr}, k < M.length → (ω.ρ ++ [a])[k]? = some b → ω.ρ[k]? = some b := fun {k b} hk e => by
    rw [List.getElem?_append_left (by rw [m.len]; exact hk)] at e
    exact e
  have nota : ∀ {k : Nat} {b : Addr} {p : AO}, ω.ρ[k]? = some b → M[k]? = some p → p ≠ .dead → b ≠ a := fun {k b p} h1 h2 nd z => by
    obtain ⟨x, h3, _, h4⟩ := m.at_ k p h2 nd
    rw [h1] at h3
    cases h3
    subst z
    cases h4 with
    | lst h _ => rw [n] at h; cases h
    | dicK h _ _ => rw [n] at h; cases h
    | dicT h _ _ _ => rw [n] at h; cases h
    | obj h _ _ _ _ => rw [n] at h; cases h
  refine ⟨fun b u e => ?_, by rw [List.length_append, List.length_append, m.len]; rfl, fun k p e nd => ?_, fun i j b p p' h1 h2 h3 h4 n1 n2 => ?_⟩
  · rw [upd_ne (ne_of_none e fn)]
    exact m.F _ _ e
  · by_cases hk : k < M.length
    · have e' := old hk e
      obtain ⟨x, h1, h2, h3⟩ := m.at_ k p e' nd
      have hx := nota h1 e' nd
      refine ⟨x, prefix_get le.ρ h1, h2, h3.keep le (fun u e => by rw [upd_ne hx]; exact e) (fun y e => by rw [upd_ne (ne_of_none e n)]; exact e) (fun y e f => f)⟩
    · have hk2 : k = M.length := by
        have := (List.getElem?_eq_some_iff.mp e).1
        rw [List.length_append, List.length_singleton] at this
        omega
      subst hk2
      rw [List.getElem?_append_right (Nat.le_refl _), Nat.sub_self] at e
      cases e
      refine ⟨a, ?_, fn, r _ rfl⟩
      show (ω.ρ ++ [a])[M.length]? = some a
      rw [← m.len, List.getElem?_append_right (Nat.le_refl _), Nat.sub_self]
      rfl
  · have ends : ∀ {k : Nat} {p : AO}, ¬ k < M.length → (M ++ [q])[k]? = some p → k = M.length ∧ (ω.ρ ++ [a])[k]? = some a := fun {k p} hk e => by
      have hk2 : k = M.length := by
        have := (List.getElem?_eq_some_iff.mp e).1
        rw [List.length_append, List.length_singleton] at this
        omega
      refine ⟨hk2, ?_⟩
      rw [hk2, ← m.len, List.getElem?_append_right (Nat.le_refl _), Nat.sub_self]
      rfl
    by_cases hi : i < M.length
    · by_cases hj : j < M.length
      · exact m.inj i j b p p' (olda hi h1) (olda hj h2) (old hi h3) (old hj h4) n1 n2
      · obtain ⟨_, z⟩ := ends hj h4
        have z' : some a = some b := z.symm.trans h2
        cases z'
        exact absurd rfl (nota (olda hi h1) (old hi h3) n1)
    · by_cases hj : j < M.length
      · obtain ⟨_, z⟩ := ends hi h3
        have z' : some a = some b := z.symm.trans h1
        cases z'
        exact absurd rfl (nota (olda hj h2) (old hj h4) n2)
      · rw [(ends hi h3).1, (ends hj h4).1]
theorem Le.snoc : Le ω ⟨ω.F, ω.ρ ++ [a]⟩ := ⟨Same.refl _, List.prefix_append _ _⟩
end

/-! ### atoms, displays -/
section
variable {T : Tx} {W : WX} {E : Fe} {X : Cx} {pos : Pos}
theorem snd_slot {i : Nat} {x : Str} (h : PE X (.Name x pos) (tVar i)) : PE X (.Name x pos) (tD T W E (.slot i)) := h.imp fun σ H Q ⟨ω, L, M, s, m, r⟩ => by
  unfold evE at r
  cases e : L[i]? with
  | none => rw [e] at r; exact r.elim
  | some o =>
    cases o with
    | none => rw [e] at r; exact r.elim
    | some d =>
      rw [e] at r
      obtain ⟨v, h1, h2⟩ := s.2 i d e
      exact ⟨v, h1, r ω H v (Le.refl _) m h2⟩
theorem snd_lit {e : Expr} {d : D} {v : V} (h : PE X e (tC v)) (q : ∀ ω, RepD T ω d v) : PE X e (tD T W E (.lit d)) := h.imp fun σ H Q ⟨ω, L, M, s, m, r⟩ => r ω H v (Le.refl _) m (q ω)
def tTupF (t : TA) : TE := fun σ H Q => t σ H fun xs H1 => xs.length ≤ sizeLine ∧ ∀ p us n, H1 p = none → Q (.ref p) (upd H1 p (TF us n xs))
theorem pe_tupF {es : List Expr} {x1 : Nat} {t : TA} (h : PA X es t) : PE X (.Tuple es x1 pos) (tTupF t) := by
  refine ⟨fun pins s σ H Q I hq => ?_⟩
  refine wpAny_Tuple_spliced (thn (h.run pos pins s σ H _ I hq) fun us s1 ⟨xs, H1, I1, r, z, q⟩ => ⟨by rw [← r.length]; exact z, ?_⟩)
  have hf : H1 s1.heap.objs.size = none := I1.hok.fresh (Nat.le_refl _)
  refine ⟨.ref s1.heap.objs.size, upd H1 s1.heap.objs.size (TF us.toArray 0 xs), I1.laid (t' := s1.toks) (fun b u e => Heap.get?_push_of_some _ e) (Nat.le_refl _) ?_, rfl, q _ _ _ hf⟩
  exact ⟨Heap.get?_push_size _ rfl, z, us, r, ⟨_, Heap.get?_push_size _ rfl, rfl, _, rfl⟩⟩
theorem snd_tup {es : List Expr} {cs : List CE} {k : Nat} (h : PA X es (tDs T W E cs)) : PE X (.Tuple es k pos) (tD T W E (.tup cs)) := (pe_tupF h).imp fun σ H Q ⟨ω, L, M, s, m, r⟩ => by
  unfold evE at r
  refine ⟨ω, L, M, s, m, (RP.bind (R := RepL T) r).imp fun xs M1 ω1 H1 vs l1 m1 q1 _ r1 => ?_⟩
  unfold newT fits at r1
  by_cases hz : xs.length ≤ line
  · rw [if_pos (by simpa using hz)] at r1
    refine ⟨by rw [← q1.length]; exact hz, fun p us n hp => ?_⟩
    exact r1 (ω1.put p (TF us n vs)) (upd H1 p (TF us n vs)) (.ref p) (Le.put (m1.none hp)) (m1.put hp) (.tup (.inl ⟨us, n, by show upd ω1.F p (TF us n vs) p = _; rw [upd_same]⟩) (q1.mono (Le.put (m1.none hp))))
  · rw [if_neg (by simpa using hz)] at r1
    exact r1.elim
theorem rp_newL {own : Bool} {xs : List D} {M1 : Store} {ω1 : Wd} {H1 : Hp} {vs : List V} {σ : L2.St} {Q : VK} (m1 : RepM T ω1 M1 H1) (q1 : RepL T ω1 xs vs) (r1 : RP T W σ (RepD T) ω1 (newL own xs M1) fun _ _ _ H' v => Q v H') :
    vs.length ≤ sizeLine ∧ ∀ p, H1 p = none → Q (.ref p) (upd H1 p (.lst vs)) := by
  unfold newL fits at r1
  by_cases hz : xs.length ≤ line
  · rw [if_pos (by simpa using hz)] at r1
    refine ⟨by rw [← q1.length]; exact hz, fun p hp => ?_⟩
    cases own with
    | false => exact r1 (ω1.put p (.lst vs)) (upd H1 p (.lst vs)) (.ref p) (Le.put (m1.none hp)) (m1.put hp) (.lst (.inl (.inl (by show upd ω1.F p (.lst vs) p = _; rw [upd_same]))) (q1.mono (Le.put (m1.none hp))))
    | true =>
      refine r1 ⟨ω1.F, ω1.ρ ++ [p]⟩ (upd H1 p (.lst vs)) (.ref p) Le.snoc (m1.snoc hp fun ω' e => ?_) (.loc ?_)
      · subst e
        exact .lst upd_same (q1.mono Le.snoc)
      · show (ω1.ρ ++ [p])[M1.length]? = some p
        rw [← m1.len, List.getElem?_append_right (Nat.le_refl _), Nat.sub_self]
        rfl
  · rw [if_neg (by simpa using hz)] at r1
    exact r1.elim
theorem snd_lst {es : List Expr} {cs : List CE} {own : Bool} (h : PA X es (tDs T W E cs)) : PE X (.List es pos) (tD T W E (.lst own cs)) := (pe_lst h).imp fun σ H Q ⟨ω, L, M, s, m, r⟩ => by
  unfold evE at r
  exact ⟨ω, L, M, s, m, (RP.bind (R := RepL T) r).imp fun xs M1 ω1 H1 vs l1 m1 q1 _ r1 => rp_newL m1 q1 r1⟩
end
end Lc
end

section
set_option autoImplicit false
set_option linter.all false
set_option Elab.async false
set_option maxRecDepth 100000
/-! Lc: operators. -/
namespace Lc
open PySem L2 PySem.Spec PyProof.Rows

section
variable {T : Tx} {ω : Wd} {M : Store} {H : Hp}
theorem view_of_loc (M : Store) (n : Nat) : (∃ xs, M[n]? = some (.lst xs) ∧ view M (.loc n) = .lst xs) ∨ (∃ ks vs, M[n]? = some (.dic ks vs) ∧ view M (.loc n) = .dic ks vs) ∨
    (∃ c ns vs, M[n]? = some (.obj c ns vs) ∧ view M (.loc n) = .obj c ns vs) ∨ view M (.loc n) = .loc n := by
  cases q : M[n]? with
  | none => exact .inr (.inr (.inr (by simp only [view, q])))
  | some o =>
    cases o with
    | lst xs => exact .inl ⟨xs, rfl, by simp only [view, q]⟩
    | dic ks vs => exact .inr (.inl ⟨ks, vs, rfl, by simp only [view, q]⟩)
    | obj c ns vs => exact .inr (.inr (.inl ⟨c, ns, vs, rfl, by simp only [view, q]⟩))
    | dead => exact .inr (.inr (.inr (by simp only [view, q])))
/-- a value that is no list, dict, instance shows itself -/
def atomic : D → Bool
  | .non => true | .bl _ => true | .int _ => true | .str _ => true | .tup _ => true | _ => false
theorem view_atom {x d : D} (a : atomic d = true) (e : view M x = d) : x = d := by
  cases x with
  | loc n =>
    rcases view_of_loc M n with ⟨_, _, h⟩ | ⟨_, _, _, h⟩ | ⟨_, _, _, _, h⟩ | h
    all_goals (rw [h] at e; subst e; exact Bool.noConfusion a)
  | _ => exact e
theorem view_int {x : D} {i : Int} (e : view M x = .int i) : x = .int i := view_atom rfl e
theorem view_str {x : D} {s : Str} (e : view M x = .str s) : x = .str s := view_atom rfl e
theorem view_tup {x : D} {xs : List D} (e : view M x = .tup xs) : x = .tup xs := view_atom rfl e
theorem view_non {x : D} (e : view M x = .non) : x = .non := view_atom rfl e
theorem view_bl {x : D} {b : Bool} (e : view M x = .bl b) : x = .bl b := view_atom rfl e
theorem view_loc {x : D} {n : Nat} {xs : List D} (e : M[n]? = some (.lst xs)) : view M (.loc n) = .lst xs := by
  simp only [view, e]
theorem RepM.lst (m : RepM T ω M H) {x : D} {v : V} {xs : List D} (r : RepD T ω x v) (e : view M x = .lst xs) : ∃ a vs, v = .ref a ∧ SqL T.K H a vs ∧ RepL T ω xs vs := by
  cases x with
  | loc n =>
    cases r with
    | loc h =>
      rcases view_of_loc M n with ⟨ys, q, z⟩ | ⟨_, _, _, z⟩ | ⟨_, _, _, _, z⟩ | z
      all_goals (rw [z] at e; cases e)
      obtain ⟨b, h1, h2, h3⟩ := m.at_ n _ q (by intro z; cases z)
      rw [h] at h1
      cases h1
      cases h3 with
      | lst h4 h5 => exact ⟨_, _, rfl, SqL.of h4, h5⟩
  | lst ys =>
    cases e
    cases r with
    | lst h s => exact ⟨_, _, rfl, m.F.seq h, s⟩
  | _ => cases e
theorem RepM.tup (m : RepM T ω M H) {x : D} {v : V} {xs : List D} (r : RepD T ω x v) (e : view M x = .tup xs) : ∃ a vs, v = .ref a ∧ SqT T.K H a vs ∧ RepL T ω xs vs := by
  obtain rfl := view_tup e
  cases r with
  | tup h s => exact ⟨_, _, rfl, (h.mono m.F).sqT, s⟩
theorem RepM.items (m : RepM T ω M H) {x : D} {v : V} {xs : List D} (r : RepD T ω x v) (e : items M x = some xs) : ∃ a vs, v = .ref a ∧ (SqL T.K H a vs ∨ SqT T.K H a vs) ∧ RepL T ω xs vs := by
  unfold Lc.items at e
  cases q : view M x with
  | tup ys =>
    rw [q] at e
    cases e
    obtain ⟨a, vs, h1, h2, h3⟩ := m.tup r q
    exact ⟨a, vs, h1, .inr h2, h3⟩
  | lst ys =>
    rw [q] at e
    cases e
    obtain ⟨a, vs, h1, h2, h3⟩ := m.lst r q
    exact ⟨a, vs, h1, .inl h2, h3⟩
  | _ => rw [q] at e; cases e
theorem RepD.int_inv {i : Int} {v : V} (r : RepD T ω (.int i) v) : v = .int i := by cases r; rfl
theorem RepD.bl_inv {b : Bool} {v : V} (r : RepD T ω (.bl b) v) : v = .bl b := by cases r; rfl
theorem RepD.str_inv {s : Str} {v : V} (r : RepD T ω (.str s) v) : v = .str s := by cases r; rfl
theorem RepD.non_inv {v : V} (r : RepD T ω .non v) : v = .non := by cases r; rfl
theorem RepL.flat {xs : List D} {vs : List V} (r : RepL T ω xs vs) : ∀ n : Nat, RepL T ω ((List.replicate n xs).flatten) ((List.replicate n vs).flatten)
  | 0 => .nil
  | n + 1 => by
    rw [List.replicate_succ, List.replicate_succ, List.flatten_cons, List.flatten_cons]
    exact r.append (r.flat n)
end

/-! ### list + list, over lists that are read -/
def rCatL (K : PySem.W.Frag) : R2 := fun x y H Q => ∃ l b xs zs, x = .ref l ∧ y = .ref b ∧ SqL K H l xs ∧ SqL K H b zs ∧ xs.length + zs.length ≤ sizeLine ∧ ∀ p, H p = none → Q (.ref p) (upd H p (.lst (xs ++ zs)))
theorem op_catL {X : Cx} : OpR X (binaryOp .Add) (rCatL X.K) := by
  intro pins s σ H x y v u Q I rx ry h
  obtain ⟨l, b, xs, zs, rfl, rfl, hH, hB, hz, q⟩ := h
  cases rx
  cases ry
  obtain ⟨its, r, ⟨⟨c1, d1, da1, sl1⟩, n, e, ec, ed, edd⟩, z⟩ := I.list hH
  obtain ⟨its2, r2, ⟨⟨c2, d2, da2, sl2⟩, n2, e2, ec2, ed2, edd2⟩, z2⟩ := I.list hB
  simp only at ec ed edd ec2 ed2 edd2
  subst ec ed edd ec2 ed2 edd2
  have ea : its.toArray ++ its2.toArray = (its ++ its2).toArray := by simp
  refine concat_meets ⟨_, e, rfl⟩ ⟨_, e2, rfl⟩ noFill_list_add seq_list_add PySem.F.slot_list_add PySem.F.entry_list_add (PySem.F.args_list_add_2 _ _)
    (list_addW l b its.toArray its2.toArray n n2 none none sl1 sl2 (by rw [List.size_toArray, List.size_toArray, ← r.length, ← r2.length]; exact hz)) ⟨e, e2, ?_⟩
  rw [ea]
  exact ⟨.ref _, _, I.lnew (t' := s.toks) (r.append r2) (by rw [List.length_append]; exact hz), rfl, q _ I.fresh⟩
/-! ### list * int -/
def rRepL (K : PySem.W.Frag) : R2 := fun x y H Q => ∃ l k xs, x = .ref l ∧ y = .int k ∧ SqL K H l xs ∧ -(2 ^ 63) ≤ k ∧ k < 2 ^ 63 ∧ xs.length * k.toNat ≤ sizeLine ∧
  ∀ p, H p = none → Q (.ref p) (upd H p (.lst (List.replicate k.toNat xs).flatten))
theorem op_repL {X : Cx} : OpR X (binaryOp .Mult) (rRepL X.K) := by
  intro pins s σ H x y v u Q I rx ry h
  obtain ⟨l, k, xs, rfl, rfl, hH, h1, h2, hz, q⟩ := h
  cases rx
  obtain ⟨t, rfl⟩ := ry
  obtain ⟨its, r, ⟨⟨c1, d1, da1, sl1⟩, n, e, ec, ed, edd⟩, z⟩ := I.list hH
  simp only at ec ed edd
  subst ec ed edd
  have hlen : its.toArray.size * k.toNat ≤ 2 ^ 24 := by
    rw [List.size_toArray, ← r.length]
    rw [sizeLine_eq] at hz
    exact hz
  refine wpAny_binaryOp_repeat_ref (T := "list") (U := "int") (by decide) ⟨_, e, rfl⟩ (fun s' => typeIs_int s' k t) noFill_list_mul F.fills_int_mul F.slot_int_rmul repeat_list F.slot_int_index.lookup
    (call_meets F.slot_int_rmul (typeIs_int s k t) F.entry_int_rmul (F.args_int_rmul_2 _ _) (lm_int_rmul_list_any k t l its.toArray n none sl1)
      ⟨e, rfl, ⟨_, e, rfl⟩, call_meets F.slot_list_mul ⟨_, e, rfl⟩ F.entry_list_mul (F.args_list_mul_2 _ _)
        (lm_list_mul_any l its.toArray n none sl1 k t (by simp [Builtin.List.listFitsIndex]; omega) (by omega) (by simp [Builtin.List.listTooLong, sizeLine]; omega)) ⟨e, ?_⟩⟩)
  have hnew : List.foldl (fun x1 x2 => x1 ++ x2) #[] (List.replicate (if its.toArray.isEmpty = true then 0 else k.toNat) its.toArray) = (List.replicate k.toNat its).flatten.toArray := by
    have f0 : ∀ m : Nat, List.foldl (fun x1 x2 => x1 ++ x2) #[] (List.replicate m its.toArray) = (List.replicate m its).flatten.toArray := fun m => by
      have := foldl_rep its m []
      rw [List.nil_append] at this
      exact this
    rw [f0]
    cases its with
    | nil => simp
    | cons a r' => rw [if_neg (by simp)]
  rw [hnew]
  exact ⟨.ref _, _, I.lnew (t' := s.toks) (r.rep k.toNat) (by rw [PyProof.Rows.lm_len_rep_flat, Nat.mul_comm]; exact hz), rfl, q _ I.fresh⟩

/-! ### tuple * int, an empty tuple, or once, or not at all -/
theorem tuple_mulS (l : Addr) (items : Array Value) (n : Nat) (dd : Option Addr) (sl : Array (Option Value)) (x : Int) (u : Tok) (c0 : (decide (x < -(2 ^ 63)) || decide (x ≥ 2 ^ 63)) = false) (c1 : (items.isEmpty || x == 1) = true) :
    Meets (Builtin.«tuple.__mul__» ⟨[.ref l, .int x u], []⟩) (fun _ R s => s.heap.get? l = some { cls := .type "tuple", dict := dd, data := .seq items n, slots := sl } ∧
      R (.ok (.ret (Value.ref l))) s) :=
  .of_wp fun prog w A R s h => by
    obtain ⟨hp, g, d, tk, os⟩ := s
    obtain ⟨hl, h⟩ := h
    have f1 := AutoSeq1.idx_int
    wp_walk using wpAny_loadPart' hl
    repeat (first
      | (refine wpAny_ite_false (decide_eq_false (by rw [c0]; exact Bool.false_ne_true)) ?_; wp_walk using wpAny_loadPart' hl)
      | (refine wpAny_ite_true (decide_eq_true c1) ?_; wp_walk using wpAny_loadPart' hl))
    all_goals exact ⟨_, rfl, h⟩
theorem tuple_mulZ (l : Addr) (items : Array Value) (n : Nat) (dd : Option Addr) (sl : Array (Option Value)) (x : Int) (u : Tok) (c0 : (decide (x < -(2 ^ 63)) || decide (x ≥ 2 ^ 63)) = false) (c1 : (items.isEmpty || x == 1) = false) (c2 : (decide (x ≤ 0) || items.isEmpty) = true) :
    Meets (Builtin.«tuple.__mul__» ⟨[.ref l, .int x u], []⟩) (fun _ R s => s.heap.get? l = some { cls := .type "tuple", dict := dd, data := .seq items n, slots := sl } ∧
      R (.ok (.ret (Value.ref s.heap.objs.size))) { s with heap := s.heap.push { cls := Value.type "tuple", data := Data.seq #[] }, toks := s.toks }) :=
  .of_wp fun prog w A R s h => by
    obtain ⟨hp, g, d, tk, os⟩ := s
    obtain ⟨hl, h⟩ := h
    have f1 := AutoSeq1.idx_int
    wp_walk using wpAny_loadPart' hl
    repeat (first
      | (refine wpAny_ite_false (decide_eq_false (by rw [c0]; exact Bool.false_ne_true)) ?_; wp_walk using wpAny_loadPart' hl)
      | (refine wpAny_ite_false (decide_eq_false (by rw [c1]; exact Bool.false_ne_true)) ?_; wp_walk using wpAny_loadPart' hl)
      | (refine wpAny_ite_true (decide_eq_true c2) ?_; wp_walk using wpAny_loadPart' hl))
    all_goals exact ⟨_, rfl, h⟩

def rRepA (K : PySem.W.Frag) : R2 := fun x y H Q => ∃ l k xs, x = .ref l ∧ y = .int k ∧ SqT K H l xs ∧ -1000 ≤ k ∧ k ≤ 1000 ∧ xs.length ≤ 1000 ∧
  (xs = [] ∨ k = 1 → Q (.ref l) H) ∧ (xs ≠ [] → k ≤ 0 → ∀ p us n, H p = none → Q (.ref p) (upd H p (TF us n []))) ∧ (xs ≠ [] → 2 ≤ k → ∀ p us n, H p = none → Q (.ref p) (upd H p (TF us n (List.replicate k.toNat xs).flatten)))
def rRepF (K : PySem.W.Frag) : R2 := fun x y H Q => ∃ l k xs, x = .ref l ∧ y = .int k ∧ SqT K H l xs ∧ xs ≠ [] ∧ 2 ≤ k ∧ k ≤ 1000 ∧ xs.length ≤ 1000 ∧ ∀ p us n, H p = none → Q (.ref p) (upd H p (TF us n (List.replicate k.toNat xs).flatten))
theorem op_repF {X : Cx} : OpR X (binaryOp .Mult) (rRepF X.K) := by
  intro pins s σ H x y v u Q I rx ry h
  obtain ⟨l, k, xs, rfl, rfl, hT, hne, h1, h2, hz, q⟩ := h
  cases rx
  obtain ⟨t, rfl⟩ := ry
  obtain ⟨its, r, ⟨⟨cls, dd, data, sl⟩, ho, hc, n, hd⟩, hs⟩ := I.tuple hT
  simp only at hc hd
  subst hc hd
  have hle : its.length = xs.length := r.length.symm
  have hn : its ≠ [] := fun e => hne (by
    rw [e] at hle
    exact List.eq_nil_of_length_eq_zero hle.symm)
  have hi : its.toArray.isEmpty = false := by
    cases its with
    | nil => exact absurd rfl hn
    | cons a b => rfl
  have hsz0 : its.toArray.size = xs.length := by rw [List.size_toArray, hle]
  have hm : ((its.toArray.size : Nat) : Int) * k ≤ 1000000 := by
    rw [hsz0]
    have a1 : ((xs.length : Nat) : Int) * k ≤ 1000 * k := Int.mul_le_mul_of_nonneg_right (by omega) (by omega)
    omega
  have flen : (List.replicate k.toNat its).flatten.length ≤ sizeLine := by
    rw [PyProof.Rows.lm_len_rep_flat, hle, sizeLine_eq]
    have a1 : k.toNat * xs.length ≤ 1000 * 1000 := Nat.mul_le_mul (by omega) hz
    omega
  have c0 : (decide (k < -(2 ^ 63)) || decide (k ≥ 2 ^ 63)) = false := by
    rw [decide_eq_false (by omega), decide_eq_false (by omega)] <;> rfl
  have c1 : (its.toArray.isEmpty || k == 1) = false := by
    rw [hi, Bool.false_or]
    exact beq_eq_false_iff_ne.mpr (by omega)
  have c2 : (decide (k ≤ 0) || its.toArray.isEmpty) = false := by
    rw [hi, Bool.or_false]
    exact decide_eq_false (by omega)
  have c4 : Builtin.Tuple.tupleTooMany (((its.toArray.size : Nat) : Int) * k) = false := by
    unfold Builtin.Tuple.tupleTooMany
    rw [sizeLine_eq]
    exact decide_eq_false (by omega)
  refine wpAny_binaryOp_repeat_ref (T := "tuple") (U := "int") (by decide) ⟨_, ho, rfl⟩ (fun s' => typeIs_int s' k t) noFill_tuple_mul F.fills_int_mul F.slot_int_rmul repeat_tuple F.slot_int_index.lookup
    (call_meets F.slot_int_rmul (typeIs_int s k t) F.entry_int_rmul (F.args_int_rmul_2 _ _) (int_rmul_tuple k t l its.toArray n dd sl)
      ⟨ho, rfl, ⟨_, ho, rfl⟩, call_meets F.slot_tuple_mul ⟨_, ho, rfl⟩ F.entry_tuple_mul (F.args_tuple_mul_2 _ _) (tuple_mulW l its.toArray n dd sl k t c0 c1 c2 (by omega) c4 (by rw [size_rep, List.size_toArray]; exact flen)) ⟨ho, ?_⟩⟩)
  rw [size_rep]
  refine ⟨.ref s.heap.objs.size, _, I.laid (t' := s.toks) (o := TF (List.replicate k.toNat its).flatten.toArray 0 (List.replicate k.toNat xs).flatten) (fun b ob q => Heap.get?_push_of_some _ q) (Nat.le_refl _) ?_, rfl, q _ _ _ (I.hok.fresh (Nat.le_refl _))⟩
  exact ⟨Heap.get?_push_size _ rfl, by rw [PyProof.Rows.lm_len_rep_flat, sizeLine_eq]; have a1 : k.toNat * xs.length ≤ 1000 * 1000 := Nat.mul_le_mul (by omega) hz; omega, _, r.rep k.toNat, IsTup.new _ _⟩
theorem op_repA {X : Cx} : OpR X (binaryOp .Mult) (rRepA X.K) := by
  intro pins s σ H x y v u Q I rx ry h
  obtain ⟨l, k, xs, rfl, rfl, hT, h0, h1, hz, q1, q2, q3⟩ := h
  by_cases hb : xs ≠ [] ∧ 2 ≤ k
  · exact op_repF pins s σ H _ _ v u Q I rx ry ⟨l, k, xs, rfl, rfl, hT, hb.1, hb.2, h1, hz, q3 hb.1 hb.2⟩
  cases rx
  obtain ⟨t, rfl⟩ := ry
  obtain ⟨its, r, ⟨⟨cls, dd, data, sl⟩, ho, hc, n, hd⟩, hs⟩ := I.tuple hT
  simp only at hc hd
  subst hc hd
  have c0 : (decide (k < -(2 ^ 63)) || decide (k ≥ 2 ^ 63)) = false := by
    rw [decide_eq_false (by omega), decide_eq_false (by omega)] <;> rfl
  have em : its.toArray.isEmpty = true ↔ xs = [] := by
    rw [← r.nil_iff]
    cases its <;> simp
  by_cases hs1 : xs = [] ∨ k = 1
  · have c1 : (its.toArray.isEmpty || k == 1) = true := by
      rcases hs1 with e | e
      · rw [em.mpr e]; rfl
      · rw [Bool.or_eq_true]; exact .inr (by simp [e])
    exact wpAny_binaryOp_repeat_ref (T := "tuple") (U := "int") (by decide) ⟨_, ho, rfl⟩ (fun s' => typeIs_int s' k t) noFill_tuple_mul F.fills_int_mul F.slot_int_rmul repeat_tuple F.slot_int_index.lookup
      (call_meets F.slot_int_rmul (typeIs_int s k t) F.entry_int_rmul (F.args_int_rmul_2 _ _) (int_rmul_tuple k t l its.toArray n dd sl)
        ⟨ho, rfl, ⟨_, ho, rfl⟩, call_meets F.slot_tuple_mul ⟨_, ho, rfl⟩ F.entry_tuple_mul (F.args_tuple_mul_2 _ _) (tuple_mulS l its.toArray n dd sl k t c0 c1) ⟨ho, .ref l, H, I, rfl, q1 hs1⟩⟩)
  · have hne : xs ≠ [] := fun e => hs1 (.inl e)
    have hk : k ≤ 0 := by
      have a1 : ¬ 2 ≤ k := fun z => hb ⟨hne, z⟩
      have a2 : k ≠ 1 := fun z => hs1 (.inr z)
      omega
    have hi : its.toArray.isEmpty = false := by
      cases e : its.toArray.isEmpty with
      | false => rfl
      | true => exact absurd (em.mp e) hne
    have c1 : (its.toArray.isEmpty || k == 1) = false := by
      rw [hi, Bool.false_or]
      exact beq_eq_false_iff_ne.mpr (by omega)
    have c2 : (decide (k ≤ 0) || its.toArray.isEmpty) = true := by
      rw [decide_eq_true hk]; rfl
    refine wpAny_binaryOp_repeat_ref (T := "tuple") (U := "int") (by decide) ⟨_, ho, rfl⟩ (fun s' => typeIs_int s' k t) noFill_tuple_mul F.fills_int_mul F.slot_int_rmul repeat_tuple F.slot_int_index.lookup
      (call_meets F.slot_int_rmul (typeIs_int s k t) F.entry_int_rmul (F.args_int_rmul_2 _ _) (int_rmul_tuple k t l its.toArray n dd sl)
        ⟨ho, rfl, ⟨_, ho, rfl⟩, call_meets F.slot_tuple_mul ⟨_, ho, rfl⟩ F.entry_tuple_mul (F.args_tuple_mul_2 _ _) (tuple_mulZ l its.toArray n dd sl k t c0 c1 c2) ⟨ho, ?_⟩⟩)
    refine ⟨.ref s.heap.objs.size, _, I.laid (t' := s.toks) (o := TF #[] 0 []) (fun b ob q => Heap.get?_push_of_some _ q) (Nat.le_refl _) ?_, rfl, q2 hne hk _ _ _ (I.hok.fresh (Nat.le_refl _))⟩
    exact ⟨Heap.get?_push_size _ rfl, Nat.zero_le _, [], .nil, IsTup.new _ _⟩

/-! ### t + u -/
def rCatF (K : PySem.W.Frag) : R2 := fun x y H Q => ∃ a b xs ys, x = .ref a ∧ y = .ref b ∧ SqT K H a xs ∧ SqT K H b ys ∧ xs.length + ys.length ≤ sizeLine ∧
  (xs = [] → Q (.ref b) H) ∧ (xs ≠ [] → ys = [] → Q (.ref a) H) ∧ (xs ≠ [] → ys ≠ [] → ∀ p us n, H p = none → Q (.ref p) (upd H p (TF us n (xs ++ ys))))
theorem op_catF {X : Cx} : OpR X (binaryOp .Add) (rCatF X.K) := by
  intro pins s σ H x y v u Q I rx ry h
  obtain ⟨a, b, xs, ys, rfl, rfl, ha, hb, hz, q0, q1, q2⟩ := h
  cases rx
  cases ry
  obtain ⟨its, r1, p1, _⟩ := I.tuple ha
  obtain ⟨its2, r2, p2, _⟩ := I.tuple hb
  by_cases hx : xs = []
  · subst hx
    cases r1
    exact cat_tup0 p1 p2 ⟨.ref b, H, I, rfl, q0 rfl⟩
  · refine HT.cat_tup p1 p2 (fun z => hx (r1.nil_iff.mp z)) (fun z => ⟨.ref a, H, I, rfl, q1 hx (r2.nil_iff.mp z)⟩) (fun z => ?_) (by rw [← r1.length, ← r2.length]; exact hz)
    refine ⟨.ref s.heap.objs.size, _, I.laid (t' := s.toks) (o := TF (its ++ its2).toArray 0 (xs ++ ys)) (fun b ob q => Heap.get?_push_of_some _ q) (Nat.le_refl _) ?_, rfl, q2 hx (fun w => z (r2.nil_iff.mpr w)) _ _ _ (I.hok.fresh (Nat.le_refl _))⟩
    exact ⟨Heap.get?_push_size _ rfl, by rw [List.length_append]; exact hz, _, r1.append r2, IsTup.new _ _⟩
/-! ### t[lo:hi] -/
def rSlF (K : PySem.W.Frag) : V → Option Int → Option Int → Hp → VK → Prop := fun x lo hi H Q => ∃ a xs, x = .ref a ∧ SqT K H a xs ∧
  (HT.sIx xs.length 0 lo = 0 ∧ HT.sIx xs.length xs.length hi = xs.length → Q (.ref a) H) ∧ (¬ (HT.sIx xs.length 0 lo = 0 ∧ HT.sIx xs.length xs.length hi = xs.length) → ∀ p us n, H p = none → Q (.ref p) (upd H p (TF us n (cutV xs lo hi))))
theorem sl_tupF {X : Cx} : SlR X (rSlF X.K) := by
  intro pins s σ H x v vl vu lo hi sl Q I rx hs pl pu h
  obtain ⟨a, xs, rfl, hx, q1, q2⟩ := h
  cases rx
  obtain ⟨its, r, ht, hz⟩ := I.tuple hx
  have hlen : its.toArray.size = xs.length := by rw [List.size_toArray]; exact r.length.symm
  refine ⟨"tuple", _, PyProof.Rows.slot_tuple_getitem.lookup, ht.typeIs, ?_⟩
  by_cases hw : HT.sIx xs.length 0 lo = 0 ∧ HT.sIx xs.length xs.length hi = xs.length
  · exact getItem_tuple_whole ht hs pl pu (by rw [hlen]; exact hw) ⟨.ref a, H, I, rfl, q1 hw⟩
  · refine HT.getItem_tuple_cut ht hs pl pu (by rw [hlen]; exact hw) ?_ (by rw [hlen]; exact hz)
    rw [hlen]
    refine ⟨.ref s.heap.objs.size, _, I.laid (t' := s.toks) (o := TF ((its.drop (HT.sIx xs.length 0 lo)).take (HT.sIx xs.length xs.length hi - HT.sIx xs.length 0 lo)).toArray 0 (cutV xs lo hi)) (fun b ob q => Heap.get?_push_of_some _ q) (Nat.le_refl _) ?_, rfl, q2 hw _ _ _ (I.hok.fresh (Nat.le_refl _))⟩
    exact ⟨Heap.get?_push_size _ rfl, Nat.le_trans (cutV_length xs lo hi) hz, _, (r.drop (HT.sIx xs.length 0 lo)).take (HT.sIx xs.length xs.length hi - HT.sIx xs.length 0 lo), IsTup.new _ _⟩
/-! ### tuple(xs) -/
theorem call_tupleF {X : Cx} : CallR X (.type "tuple") (fun xs H Q => ∃ p ys, xs = [.ref p] ∧ ((SqL X.K H p ys ∧ ∀ l us n, H l = none → Q (.ref l) (upd H l (TF us n ys))) ∨ (SqT X.K H p ys ∧ Q (.ref p) H))) := by
  intro pins s σ H xs us Q I r h
  obtain ⟨p, ys, rfl, h⟩ := h
  obtain ⟨u, rfl, rx⟩ := vals1 r
  cases rx
  rcases h with ⟨hq, q⟩ | ⟨hq, q⟩
  · obtain ⟨its, r', pl, hz⟩ := I.list hq
    have hlen := r'.length
    refine call_tuple_list pl.isList (fun h' kp => ?_) (by simp only [List.size_toArray] <;> omega)
    have I1 : Inv X pins σ H { s with heap := h' } := I.kept (t' := s.toks) kp
    have I2 : Inv X pins σ (upd H h'.objs.size (TF its.toArray 0 ys)) { s with heap := h'.push { cls := .type "tuple", data := .seq its.toArray } } :=
      I1.laid (t' := s.toks) (fun b o e => Heap.get?_push_of_some _ e) (Nat.le_refl _) (show ObjOk X.prog X.w _ _ _ (TF its.toArray 0 ys) from ⟨Heap.get?_push_size _ rfl, hz, its, r', IsTup.new _ _⟩)
    exact ⟨.ref h'.objs.size, _, I2, rfl, q _ _ _ (I1.hok.fresh (Nat.le_refl _))⟩
  · obtain ⟨its, r', pl, hz⟩ := I.tuple hq
    exact call_tuple_same pl ⟨.ref p, H, I, rfl, q⟩

/-! ### great numbers -/
theorem two_le (n : Nat) : (n : Int) < 2 ^ n := by
  have := @Nat.lt_two_pow_self n
  exact_mod_cast this

section
variable {T : Tx} {W : WX} {E : Fe} {X : Cx} {pos : Pos} {a b : Expr} {ca cb : CE}
/-- the parts of two operands -/
theorem rp2 {op : D → D → Store → Res D} {σ : L2.St} {H : Hp} {Q : VK} {ω : Wd} {L : Loc} {M : Store} {r : R2} (s : RepS T ω L σ) (m : RepM T ω M H)
    (k : ∀ ω M dx dy x y H, RepM T ω M H → RepD T ω dx x → RepD T ω dy y → RP T W σ (RepD T) ω (op dx dy M) (fun _ _ _ H' v => Q v H') → r x y H Q)
    (h : RP T W σ (RepD T) ω ((evE E ca L M).bind fun x M1 => (evE E cb L M1).bind fun y M2 => op x y M2) fun _ _ _ H' v => Q v H') :
    tOp r (tD T W E ca) (tD T W E cb) σ H Q := by
  refine ⟨ω, L, M, s, m, (RP.bind (R := RepD T) h).imp fun x M1 ω1 H1 v l1 m1 q1 _ r1 => ?_⟩
  exact ⟨ω1, L, M1, s.mono l1, m1, (RP.bind (R := RepD T) r1).imp fun y M2 ω2 H2 u l2 m2 q2 _ r2 => k ω2 M2 x y v u H2 m2 (q1.mono l2) q2 r2⟩
theorem snd_bin {op : Operator} {bop : BOp} {own : Bool} {r : R2} (ho : OpR X (binaryOp op) r)
    (k : ∀ σ Q ω M dx dy x y H, RepM T ω M H → RepD T ω dx x → RepD T ω dy y → RP T W σ (RepD T) ω (binE E bop own dx dy M) (fun _ _ _ H' v => Q v H') → r x y H Q)
    (ha : PE X a (tD T W E ca)) (hb : PE X b (tD T W E cb)) : PE X (.BinOp a op b pos) (tD T W E (.bin bop own ca cb)) := (pe_op ho ha hb).imp fun σ H Q ⟨ω, L, M, s, m, h⟩ => by
  unfold evE at h
  exact rp2 s m (k σ Q) h
theorem rp_newT {xs : List D} {M1 : Store} {ω1 : Wd} {H1 : Hp} {vs : List V} {σ : L2.St} {Q : VK} (m1 : RepM T ω1 M1 H1) (q1 : RepL T ω1 xs vs) (r1 : RP T W σ (RepD T) ω1 (newT xs M1) fun _ _ _ H' v => Q v H') :
    vs.length ≤ sizeLine ∧ (∀ a, SqT T.K H1 a vs → (∃ b, RepD T ω1 (.tup xs) (.ref b)) → True) ∧ (∀ p us n, H1 p = none → Q (.ref p) (upd H1 p (TF us n vs))) ∧ (∀ v, RepD T ω1 (.tup xs) v → Q v H1) := by
  unfold newT fits at r1
  by_cases hz : xs.length ≤ line
  · rw [if_pos (by simpa using hz)] at r1
    refine ⟨by rw [← q1.length]; exact hz, fun _ _ _ => trivial, fun p us n hp => ?_, fun v hv => r1 ω1 H1 v (Le.refl _) m1 hv⟩
    exact r1 (ω1.put p (TF us n vs)) (upd H1 p (TF us n vs)) (.ref p) (Le.put (m1.none hp)) (m1.put hp) (.tup (.inl ⟨us, n, by show upd ω1.F p (TF us n vs) p = _; rw [upd_same]⟩) (q1.mono (Le.put (m1.none hp))))
  · rw [if_neg (by simpa using hz)] at r1
    exact r1.elim
theorem binE_plain {op : BOp} {own : Bool} {x y : D} {M : Store} (h : op ≠ .or) (h2 : op ≠ .and) : binE E op own x y M = binop op own x y M := by
  cases op with
  | or => exact absurd rfl h
  | and => exact absurd rfl h2
  | _ => unfold binE; cases view M x <;> rfl

theorem op_powA {X : Cx} : OpR X (binaryOp .Pow) (rI (fun i j => powOk i j = true) fun i j => .int (i ^ j.toNat)) := opI fun i j _ _ _ _ _ hc q => by
  unfold powOk at hc
  simp only [Bool.and_eq_true, decide_eq_true_eq] at hc
  obtain ⟨⟨h0, h1⟩, h2⟩ := hc
  refine pow_int h0 ?_ q
  have hb : Builtin.Int.intBits i ≤ i.natAbs.log2 + 1 := by
    unfold Builtin.Int.intBits
    split <;> omega
  have h3 : (Builtin.Int.intBits i : Int) ≤ 1000 := by omega
  have h4 : (Builtin.Int.intBits i : Int) * j ≤ 1000 * 1000 := Int.mul_le_mul h3 h1 h0 (by omega)
  omega

variable {σ : L2.St} {Q : VK} {ω : Wd} {M : Store} {H : Hp} {dx dy : D} {x y : V} {own : Bool}
def rAddA (K : PySem.W.Frag) : R2 := fun x y H Q => (rI0 (fun i j => .int (i + j))) x y H Q ∨ (∃ i j, x = .str i ∧ y = .str j ∧ i.length + j.length ≤ sizeLine ∧ Q (.str (i ++ j)) H) ∨ rCatF K x y H Q ∨ rCatL K x y H Q
theorem op_addA : OpR X (binaryOp .Add) (rAddA X.K) := op_add.or (op_add_str.or (op_catF.or op_catL))
theorem k_add (m : RepM T ω M H) (rx : RepD T ω dx x) (ry : RepD T ω dy y) (h : RP T W σ (RepD T) ω (binE E .add own dx dy M) (fun _ _ _ H' v => Q v H')) : rAddA T.K x y H Q := by
  rw [binE_plain (by decide) (by decide)] at h
  cases ex : view M dx with
  | int i =>
    cases ey : view M dy with
    | int j =>
      simp only [binop, ex, ey] at h
      obtain rfl := view_int ex
      obtain rfl := view_int ey
      exact .inl ⟨i, j, rx.int_inv, ry.int_inv, h ω H _ (Le.refl _) m (.int _)⟩
    | _ => simp only [binop, ex, ey] at h; exact h.elim
  | str i =>
    cases ey : view M dy with
    | str j =>
      simp only [binop, ex, ey] at h
      obtain rfl := view_str ex
      obtain rfl := view_str ey
      by_cases hz : i.length + j.length ≤ line
      · rw [if_pos hz] at h
        exact .inr (.inl ⟨i, j, rx.str_inv, ry.str_inv, hz, h ω H _ (Le.refl _) m (.str _)⟩)
      · rw [if_neg hz] at h
        exact h.elim
    | _ => simp only [binop, ex, ey] at h; exact h.elim
  | tup xs =>
    cases ey : view M dy with
    | tup ys =>
      simp only [binop, ex, ey] at h
      obtain ⟨a, vs, rfl, ha, ra⟩ := m.tup rx ex
      obtain ⟨b, ws, rfl, hb, rb⟩ := m.tup ry ey
      obtain ⟨hz, _, hp, hs⟩ := rp_newT m (ra.append rb) h
      refine .inr (.inr (.inl ⟨a, b, vs, ws, rfl, rfl, ha, hb, by rw [← List.length_append]; exact hz, fun e => ?_, fun _ e => ?_, fun _ _ => hp⟩))
      · subst e
        cases ra
        exact hs _ (by rw [List.nil_append, ← view_tup ey]; exact ry)
      · subst e
        cases rb
        exact hs _ (by rw [List.append_nil, ← view_tup ex]; exact rx)
    | _ => simp only [binop, ex, ey] at h; exact h.elim
  | lst xs =>
    cases ey : view M dy with
    | lst ys =>
      simp only [binop, ex, ey] at h
      obtain ⟨a, vs, rfl, ha, ra⟩ := m.lst rx ex
      obtain ⟨b, ws, rfl, hb, rb⟩ := m.lst ry ey
      obtain ⟨hz, hp⟩ := rp_newL m (ra.append rb) h
      exact .inr (.inr (.inr ⟨a, b, vs, ws, rfl, rfl, ha, hb, by rw [← List.length_append]; exact hz, hp⟩))
    | _ => simp only [binop, ex, ey] at h; exact h.elim
  | _ => simp only [binop, ex] at h; exact h.elim
theorem k_int {bop : BOp} {C : Int → Int → Prop} {g : Int → Int → Int} (hb : bop ≠ .or) (hb2 : bop ≠ .and)
    (he : ∀ vx vy : D, view M dx = vx → view M dy = vy → RP T W σ (RepD T) ω (binop bop own dx dy M) (fun _ _ _ H' v => Q v H') → ∃ i j, vx = .int i ∧ vy = .int j ∧ C i j ∧ Q (.int (g i j)) H)
    (m : RepM T ω M H) (rx : RepD T ω dx x) (ry : RepD T ω dy y) (h : RP T W σ (RepD T) ω (binE E bop own dx dy M) (fun _ _ _ H' v => Q v H')) : rI C (fun i j => .int (g i j)) x y H Q := by
  rw [binE_plain hb hb2] at h
  obtain ⟨i, j, ex, ey, c, q⟩ := he _ _ rfl rfl h
  obtain rfl := view_int ex
  obtain rfl := view_int ey
  exact ⟨i, j, rx.int_inv, ry.int_inv, c, q⟩
theorem k_sub (m : RepM T ω M H) (rx : RepD T ω dx x) (ry : RepD T ω dy y) (h : RP T W σ (RepD T) ω (binE E .sub own dx dy M) (fun _ _ _ H' v => Q v H')) : rI0 (fun i j => .int (i - j)) x y H Q := by
  obtain ⟨i, j, h1, h2, _, h3⟩ := k_int (C := fun _ _ => True) (g := fun i j => i - j) (by decide) (by decide) (fun vx vy ex ey h => by
    unfold binop at h
    rw [ex, ey] at h
    cases vx with
    | int i => cases vy with
      | int j => exact ⟨i, j, rfl, rfl, trivial, h ω H _ (Le.refl _) m (.int _)⟩
      | _ => exact h.elim
    | _ => exact h.elim) m rx ry h
  exact ⟨i, j, h1, h2, h3⟩
theorem k_fdiv (m : RepM T ω M H) (rx : RepD T ω dx x) (ry : RepD T ω dy y) (h : RP T W σ (RepD T) ω (binE E .fdiv own dx dy M) (fun _ _ _ H' v => Q v H')) : rI CDivW (fun i j => .int (i / j)) x y H Q :=
  k_int (by decide) (by decide) (fun vx vy ex ey h => by
    unfold binop at h
    rw [ex, ey] at h
    cases vx with
    | int i => cases vy with
      | int j =>
        by_cases c : divOk j = true
        · simp only [c, if_true] at h
          refine ⟨i, j, rfl, rfl, ?_, h ω H _ (Le.refl _) m (.int _)⟩
          unfold divOk at c
          simp only [Bool.and_eq_true, decide_eq_true_eq] at c
          exact c
        · simp only [c] at h
          exact h.elim
      | _ => exact h.elim
    | _ => exact h.elim) m rx ry h
theorem k_mod (m : RepM T ω M H) (rx : RepD T ω dx x) (ry : RepD T ω dy y) (h : RP T W σ (RepD T) ω (binE E .mod own dx dy M) (fun _ _ _ H' v => Q v H')) : rI (fun _ j => 0 < j) (fun i j => .int (i % j)) x y H Q :=
  k_int (by decide) (by decide) (fun vx vy ex ey h => by
    unfold binop at h
    rw [ex, ey] at h
    cases vx with
    | int i => cases vy with
      | int j =>
        by_cases c : 0 < j
        · simp only [c, if_true] at h
          exact ⟨i, j, rfl, rfl, c, h ω H _ (Le.refl _) m (.int _)⟩
        · simp only [c] at h
          exact h.elim
      | _ => exact h.elim
    | _ => exact h.elim) m rx ry h
theorem k_pow (m : RepM T ω M H) (rx : RepD T ω dx x) (ry : RepD T ω dy y) (h : RP T W σ (RepD T) ω (binE E .pow own dx dy M) (fun _ _ _ H' v => Q v H')) : rI (fun i j => powOk i j = true) (fun i j => .int (i ^ j.toNat)) x y H Q :=
  k_int (by decide) (by decide) (fun vx vy ex ey h => by
    unfold binop at h
    rw [ex, ey] at h
    cases vx with
    | int i => cases vy with
      | int j =>
        by_cases c : powOk i j = true
        · simp only [c, if_true] at h
          exact ⟨i, j, rfl, rfl, c, h ω H _ (Le.refl _) m (.int _)⟩
        · simp only [c] at h
          exact h.elim
      | _ => exact h.elim
    | _ => exact h.elim) m rx ry h
def rMulA (K : PySem.W.Frag) : R2 := fun x y H Q => (rI CMulW (fun i j => .int (i * j))) x y H Q ∨ rRepA K x y H Q ∨ rRepL K x y H Q
theorem op_mulA : OpR X (binaryOp .Mult) (rMulA X.K) := op_mulW.or (op_repA.or op_repL)
theorem k_mul (m : RepM T ω M H) (rx : RepD T ω dx x) (ry : RepD T ω dy y) (h : RP T W σ (RepD T) ω (binE E .mul own dx dy M) (fun _ _ _ H' v => Q v H')) : rMulA T.K x y H Q := by
  rw [binE_plain (by decide) (by decide)] at h
  cases ex : view M dx with
  | int i =>
    cases ey : view M dy with
    | int j =>
      simp only [binop, ex, ey] at h
      obtain rfl := view_int ex
      obtain rfl := view_int ey
      by_cases c : mulOk i j = true
      · rw [if_pos c] at h
        have c' : i.natAbs.log2 + j.natAbs.log2 < 1000000 := of_decide_eq_true c
        exact .inl ⟨i, j, rx.int_inv, ry.int_inv, c', h ω H _ (Le.refl _) m (.int _)⟩
      · rw [if_neg c] at h
        exact h.elim
    | _ => simp only [binop, ex, ey] at h; exact h.elim
  | tup xs =>
    cases ey : view M dy with
    | int n =>
      simp only [binop, ex, ey] at h
      obtain rfl := view_int ey
      obtain ⟨a, vs, rfl, ha, ra⟩ := m.tup rx ex
      by_cases c : -1000 ≤ n ∧ n ≤ 1000 ∧ xs.length ≤ 1000
      · rw [if_pos c] at h
        obtain ⟨hz, _, hp, hs⟩ := rp_newT m (ra.flat n.toNat) h
        refine .inr (.inl ⟨a, n, vs, rfl, ry.int_inv, ha, c.1, c.2.1, by rw [← ra.length]; exact c.2.2, fun e => ?_, fun ne z p us n2 hn => ?_, fun _ _ => hp⟩)
        · have e' : (List.replicate n.toNat xs).flatten = xs := by
            rcases e with e | e
            · subst e
              cases ra
              exact List.flatten_eq_nil_iff.mpr fun l hl => (List.mem_replicate.mp hl).2
            · subst e
              simp [List.replicate]
          refine hs _ ?_
          rw [e', ← view_tup ex]
          exact rx
        · have e' : n.toNat = 0 := by omega
          have q := hp p us n2 hn
          rw [e'] at q
          exact q
      · rw [if_neg c] at h
        exact h.elim
    | _ => simp only [binop, ex, ey] at h; exact h.elim
  | lst xs =>
    cases ey : view M dy with
    | int n =>
      simp only [binop, ex, ey] at h
      obtain rfl := view_int ey
      obtain ⟨a, vs, rfl, ha, ra⟩ := m.lst rx ex
      by_cases c : -1000000 ≤ n ∧ n ≤ 1000000
      · rw [if_pos c] at h
        obtain ⟨hz, hp⟩ := rp_newL m (ra.flat n.toNat) h
        refine .inr (.inr ⟨a, n, vs, rfl, ry.int_inv, ha, by omega, by omega, ?_, hp⟩)
        rw [PyProof.Rows.lm_len_rep_flat, Nat.mul_comm] at hz
        exact hz
      · rw [if_neg c] at h
        exact h.elim
    | _ => simp only [binop, ex, ey] at h; exact h.elim
  | _ => simp only [binop, ex] at h; exact h.elim
theorem snd_add (hK : X.K = T.K) (ha : PE X a (tD T W E ca)) (hb : PE X b (tD T W E cb)) : PE X (.BinOp a .Add b pos) (tD T W E (.bin .add own ca cb)) :=
  snd_bin op_addA (fun σ Q ω M dx dy x y H m rx ry h => by rw [hK]; exact k_add m rx ry h) ha hb
theorem snd_sub (ha : PE X a (tD T W E ca)) (hb : PE X b (tD T W E cb)) : PE X (.BinOp a .Sub b pos) (tD T W E (.bin .sub own ca cb)) :=
  snd_bin op_sub (fun σ Q ω M dx dy x y H m rx ry h => k_sub m rx ry h) ha hb
theorem snd_mul (hK : X.K = T.K) (ha : PE X a (tD T W E ca)) (hb : PE X b (tD T W E cb)) : PE X (.BinOp a .Mult b pos) (tD T W E (.bin .mul own ca cb)) :=
  snd_bin op_mulA (fun σ Q ω M dx dy x y H m rx ry h => by rw [hK]; exact k_mul m rx ry h) ha hb
theorem snd_fdiv (ha : PE X a (tD T W E ca)) (hb : PE X b (tD T W E cb)) : PE X (.BinOp a .FloorDiv b pos) (tD T W E (.bin .fdiv own ca cb)) :=
  snd_bin op_fdivW (fun σ Q ω M dx dy x y H m rx ry h => k_fdiv m rx ry h) ha hb
theorem snd_mod (ha : PE X a (tD T W E ca)) (hb : PE X b (tD T W E cb)) : PE X (.BinOp a .Mod b pos) (tD T W E (.bin .mod own ca cb)) :=
  snd_bin op_mod (fun σ Q ω M dx dy x y H m rx ry h => k_mod m rx ry h) ha hb
theorem snd_pow (ha : PE X a (tD T W E ca)) (hb : PE X b (tD T W E cb)) : PE X (.BinOp a .Pow b pos) (tD T W E (.bin .pow own ca cb)) :=
  snd_bin op_powA (fun σ Q ω M dx dy x y H m rx ry h => k_pow m rx ry h) ha hb
end
end Lc
end

section
set_option autoImplicit false
set_option linter.all false
set_option Elab.async false
set_option maxRecDepth 100000
/-! Lc: comparisons, truth. -/
namespace Lc
open PySem L2 PySem.Spec PyProof.Rows

section
variable {T : Tx} {ω : Wd} {M : Store} {H : Hp}
mutual
theorem dp_of (m : Same ω.F H) : ∀ {d : D} {v : V} {n : Nat}, RepD T ω d v → d.pure n = true → Dp T.K H v d.pd
  | _, _, _, .non, _ => .non
  | _, _, _, .bl b, _ => .bl b
  | _, _, _, .int i, _ => .int i
  | _, _, _, .str s, _ => .str s
  | _, _, 0, .tup h r, p => by simp [D.pure] at p
  | _, _, n + 1, .tup h r, p => by
    unfold D.pd
    exact .tup ((h.mono m).sqT) (dps_of m r (by simpa [D.pure] using p))
  | _, _, 0, .lst h r, p => by simp [D.pure] at p
  | _, _, n + 1, .lst h r, p => by
    unfold D.pd
    exact .lst (m.seq h) (dps_of m r (by simpa [D.pure] using p))
  | _, _, n, .dicK _ _ _, p => by simp [D.pure] at p
  | _, _, n, .dicT _ _ _ _, p => by simp [D.pure] at p
  | _, _, n, .obj _ _ _ _, p => by simp [D.pure] at p
  | _, _, n, .loc _, p => by simp [D.pure] at p
theorem dps_of (m : Same ω.F H) : ∀ {d : List D} {v : List V} {n : Nat}, RepL T ω d v → D.pureL n d = true → DpAll T.K H v (D.pdL d)
  | _, _, _, .nil, _ => .nil
  | _, _, n, .cons r t, p => by
    have p' := Bool.and_eq_true_iff.mp (by simpa only [D.pureL] using p)
    unfold D.pdL
    exact .cons (dp_of m r p'.1) (dps_of m t p'.2)
end
mutual
theorem pure_lay : ∀ {d : D} {n : Nat}, d.pure n = true → d.pd.canLay0 = true ∧ d.pd.depth ≤ n
  | .non, n, _ => ⟨rfl, Nat.zero_le _⟩
  | .bl b, n, _ => ⟨rfl, Nat.zero_le _⟩
  | .int i, n, _ => ⟨rfl, Nat.zero_le _⟩
  | .str s, n, p => ⟨by show (PyData.str s).canLay0 = true; simpa only [D.pure] using p, Nat.zero_le _⟩
  | .tup xs, 0, p => by simp [D.pure] at p
  | .tup xs, n + 1, p => by
    have q := pureL_lay (d := xs) (n := n) (by simpa [D.pure] using p)
    unfold D.pd
    exact ⟨by simpa [PyData.canLay0] using q.1, by simpa [PyData.depth] using q.2⟩
  | .lst xs, 0, p => by simp [D.pure] at p
  | .lst xs, n + 1, p => by
    have q := pureL_lay (d := xs) (n := n) (by simpa [D.pure] using p)
    unfold D.pd
    exact ⟨by simpa [PyData.canLay0] using q.1, by simpa [PyData.depth] using q.2⟩
  | .dic _ _, n, p => by simp [D.pure] at p
  | .obj _ _ _, n, p => by simp [D.pure] at p
  | .loc _, n, p => by simp [D.pure] at p
theorem pureL_lay : ∀ {d : List D} {n : Nat}, D.pureL n d = true → PyData.canLayAll0 (D.pdL d) = true ∧ PyData.depthAll (D.pdL d) ≤ n
  | [], n, _ => ⟨rfl, Nat.zero_le _⟩
  | x :: xs, n, p => by
    have p' := Bool.and_eq_true_iff.mp (by simpa only [D.pureL] using p)
    have q1 := pure_lay p'.1
    have q2 := pureL_lay p'.2
    unfold D.pdL
    exact ⟨by simp only [PyData.canLayAll0, q1.1, q2.1]; rfl, by simp only [PyData.depthAll]; exact Nat.max_le.mpr ⟨q1.2, q2.2⟩⟩
end
theorem shaped_of {d : D} {n : Nat} (h : n ≤ 64) (p : d.pure n = true) : SeqAt.shaped d.pd = true := by
  have q := pure_lay p
  unfold SeqAt.shaped
  rw [q.1, Bool.true_and]
  exact decide_eq_true (Nat.le_trans q.2 h)
/-- the data of a view -/
theorem dpv_of (m : RepM T ω M H) {x : D} {v : V} (r : RepD T ω x v) (p : (view M x).pure flatN = true) : Dp T.K H v (view M x).pd := by
  cases x with
  | loc n =>
    rcases view_of_loc M n with ⟨xs, q, e⟩ | ⟨_, _, _, e⟩ | ⟨_, _, _, _, e⟩ | e
    · obtain ⟨a, vs, rfl, h1, h2⟩ := m.lst r e
      rw [e] at p ⊢
      unfold D.pd
      exact .lst h1 (dps_of m.F h2 (n := 39) (by unfold flatN at p; simpa [D.pure] using p))
    all_goals (rw [e] at p; simp [D.pure] at p)
  | _ => exact dp_of m.F r p
end

/-- what a body knows around itself -/
structure Ok (T : Tx) (k : Nat) (X : Cx) : Prop where
  K : X.K = T.K
  w : X.w = T.w
  calm : X.calm = true
  nd : X.N.Nodup
  room : Room k X.A
theorem Ok.units {T : Tx} {k : Nat} {X : Cx} (o : Ok T k X) : X.A.units + 200 < cLine := by have := o.room.un; omega

/-! ### == , != -/
def rCmp (r : D → D → Bool) (T : Tx) (W : WX) (E : Fe) (op : COp) (x y : V) (H : Hp) (Q : VK) : Prop := False
section
variable {T : Tx} {W : WX} {E : Fe} {X : Cx} {pos : Pos} {a b : Expr} {ca cb : CE}
theorem snd_cmp {op : CmpOp} {cop : COp} {r : R2} (ho : OpR X (compareOp op) r) (hm : behindInMarks op b = false)
    (k : ∀ σ Q ω M dx dy x y H, RepM T ω M H → RepD T ω dx x → RepD T ω dy y → RP T W σ (RepD T) ω (cmpE E cop dx dy M) (fun _ _ _ H' v => Q v H') → r x y H Q)
    (ha : PE X a (tD T W E ca)) (hb : PE X b (tD T W E cb)) : PE X (.Compare a [op] [b] pos) (tD T W E (.cmp cop ca cb)) := (pe_cmpR ho ha hb hm).imp fun σ H Q ⟨ω, L, M, s, m, h⟩ => by
  unfold evE at h
  exact rp2 s m (k σ Q) h
variable {σ : L2.St} {Q : VK} {ω : Wd} {M : Store} {H : Hp} {dx dy : D} {x y : V}
/-- an operator by the values alone, where no method of an own class is asked -/
def noObj : D → Bool
  | .obj _ _ _ => false | _ => true
theorem cmpE_plain {op : COp} (h1 : noObj (view M dx) = true) (h2 : noObj (view M dy) = true) : cmpE E op dx dy M = cmpop op dx dy M := by
  unfold cmpE
  cases ex : view M dx with
  | obj => rw [ex] at h1; cases h1
  | _ => cases ey : view M dy with
    | obj => rw [ey] at h2; cases h2
    | _ => cases op <;> rfl
theorem pure_noObj {d : D} {n : Nat} (p : d.pure n = true) : noObj d = true := by
  cases d with
  | obj => simp [D.pure] at p
  | _ => rfl
def rEqA (K : PySem.W.Frag) : R2 := fun x y H Q => ∃ d e, Dp K H x d ∧ Dp K H y e ∧ SeqAt.shaped d = true ∧ SeqAt.shaped e = true ∧ Q (.bl (PyData.eqv d e)) H
/-- .. where the first is an instance, by its own class's method: see below -/
theorem k_eq (n1 : noObj (view M dx) = true) (n2 : noObj (view M dy) = true) (m : RepM T ω M H) (rx : RepD T ω dx x) (ry : RepD T ω dy y) (h : RP T W σ (RepD T) ω (cmpE E .eq dx dy M) (fun _ _ _ H' v => Q v H')) : rEqD T.K x y H Q := by
  rw [cmpE_plain n1 n2] at h
  simp only [cmpop] at h
  by_cases c : ((view M dx).pure flatN && (view M dy).pure flatN) = true
  · rw [if_pos c] at h
    have c' := Bool.and_eq_true_iff.mp c
    exact ⟨_, _, dpv_of m rx c'.1, dpv_of m ry c'.2, shaped_of (by decide) c'.1, shaped_of (by decide) c'.2, h ω H _ (Le.refl _) m (.bl _)⟩
  · rw [if_neg c] at h
    exact h.elim
theorem k_ne (n1 : noObj (view M dx) = true) (n2 : noObj (view M dy) = true) (m : RepM T ω M H) (rx : RepD T ω dx x) (ry : RepD T ω dy y) (h : RP T W σ (RepD T) ω (cmpE E .ne dx dy M) (fun _ _ _ H' v => Q v H')) : rNeD T.K x y H Q := by
  rw [cmpE_plain n1 n2] at h
  simp only [cmpop] at h
  by_cases c : ((view M dx).pure flatN && (view M dy).pure flatN) = true
  · rw [if_pos c] at h
    have c' := Bool.and_eq_true_iff.mp c
    exact ⟨_, _, dpv_of m rx c'.1, dpv_of m ry c'.2, shaped_of (by decide) c'.1, shaped_of (by decide) c'.2, h ω H _ (Le.refl _) m (.bl _)⟩
  · rw [if_neg c] at h
    exact h.elim
/-! ### is -/
def rIsA : R2 := fun x y H Q => (y = .non ∧ Q (.bl (decide (x = .non))) H) ∨ ∃ a b, x = .bl a ∧ y = .bl b ∧ Q (.bl (decide (a = b))) H
def rIsNA : R2 := fun x y H Q => (y = .non ∧ Q (.bl (!decide (x = .non))) H) ∨ ∃ a b, x = .bl a ∧ y = .bl b ∧ Q (.bl (!decide (a = b))) H
theorem op_isA : OpR X (compareOp .Is) rIsA := op_isN.or op_is_bl
theorem op_isNA : OpR X (compareOp .IsNot) rIsNA := op_notN.or op_isnot_bl
theorem non_iff (rx : RepD T ω dx x) : decide (x = .non) = decide (dx = .non) := by
  cases rx <;> simp
theorem cmpE_is : cmpE E .is dx dy M = cmpop .is dx dy M := by
  unfold cmpE; cases view M dx <;> cases view M dy <;> rfl
theorem cmpE_isN : cmpE E .isNot dx dy M = cmpop .isNot dx dy M := by
  unfold cmpE; cases view M dx <;> cases view M dy <;> rfl
theorem k_is (m : RepM T ω M H) (rx : RepD T ω dx x) (ry : RepD T ω dy y) (h : RP T W σ (RepD T) ω (cmpE E .is dx dy M) (fun _ _ _ H' v => Q v H')) : rIsA x y H Q := by
  rw [cmpE_is] at h
  cases dy with
  | non =>
    have e : cmpop .is dx .non M = .ok (.bl (decide (dx = .non))) M := by cases dx <;> rfl
    rw [e] at h
    exact .inl ⟨ry.non_inv, by rw [non_iff rx]; exact h ω H _ (Le.refl _) m (.bl _)⟩
  | bl b =>
    cases dx with
    | bl a => exact .inr ⟨a, b, rx.bl_inv, ry.bl_inv, by rw [show decide (a = b) = (a == b) by cases a <;> cases b <;> rfl]; exact h ω H _ (Le.refl _) m (.bl _)⟩
    | _ => exact h.elim
  | _ => cases dx <;> exact h.elim
theorem k_isN (m : RepM T ω M H) (rx : RepD T ω dx x) (ry : RepD T ω dy y) (h : RP T W σ (RepD T) ω (cmpE E .isNot dx dy M) (fun _ _ _ H' v => Q v H')) : rIsNA x y H Q := by
  rw [cmpE_isN] at h
  cases dy with
  | non =>
    have e : cmpop .isNot dx .non M = .ok (.bl (!decide (dx = .non))) M := by cases dx <;> rfl
    rw [e] at h
    exact .inl ⟨ry.non_inv, by rw [non_iff rx]; exact h ω H _ (Le.refl _) m (.bl _)⟩
  | bl b =>
    cases dx with
    | bl a => exact .inr ⟨a, b, rx.bl_inv, ry.bl_inv, by rw [show decide (a = b) = (a == b) by cases a <;> cases b <;> rfl]; exact h ω H _ (Le.refl _) m (.bl _)⟩
    | _ => exact h.elim
  | _ => cases dx <;> exact h.elim
/-! ### < of numbers, of tuples -/
def rLtA (K : PySem.W.Frag) : R2 := fun x y H Q => (rI0 (fun i j => .bl (decide (i < j)))) x y H Q ∨
  ∃ d e, Dp K H x d ∧ Dp K H y e ∧ d ≠ .none ∧ PySem.W.alike d e = true ∧ d.depth ≤ 64 ∧ Q (.bl (PySem.W.dataLt d e)) H
theorem op_ltD (hu : X.A.units + 200 < cLine) : OpR X (compareOp .Lt) (fun x y H Q => ∃ d e, Dp X.K H x d ∧ Dp X.K H y e ∧ d ≠ .none ∧ PySem.W.alike d e = true ∧ d.depth ≤ 64 ∧ Q (.bl (PySem.W.dataLt d e)) H) := by
  intro pins s σ H x y v u Q I rx ry h
  obtain ⟨d, e, hd, he, nn, al, dp, q⟩ := h
  obtain ⟨as, r1⟩ := Dp.reads I d x v hd rx
  obtain ⟨bs, r2⟩ := Dp.reads I e y u he ry
  exact PySem.W.rcLt_alike d e X.A s v u as bs r1 r2 al nn (by have := Nat.min_le_left d.depth e.depth; omega) X.prog X.w X.xe (EP X pins σ Q) ⟨.bl _, H, I, rfl, q⟩
theorem op_ltA (hu : X.A.units + 200 < cLine) : OpR X (compareOp .Lt) (rLtA X.K) := op_lt.or (op_ltD hu)
theorem cmpE_lt {op : COp} (h : op = .lt ∨ op = .le ∨ op = .gt ∨ op = .ge) : cmpE E op dx dy M = cmpop op dx dy M := by
  rcases h with rfl | rfl | rfl | rfl
  all_goals (unfold cmpE; cases view M dx <;> cases view M dy <;> rfl)
theorem k_lt (m : RepM T ω M H) (rx : RepD T ω dx x) (ry : RepD T ω dy y) (h : RP T W σ (RepD T) ω (cmpE E .lt dx dy M) (fun _ _ _ H' v => Q v H')) : rLtA T.K x y H Q := by
  rw [cmpE_lt (.inl rfl)] at h
  cases dx with
  | int i =>
    cases dy with
    | int j => exact .inl ⟨i, j, rx.int_inv, ry.int_inv, h ω H _ (Le.refl _) m (.bl _)⟩
    | _ => exact h.elim
  | tup xs =>
    cases dy with
    | tup ys =>
      simp only [cmpop] at h
      by_cases c : ((D.tup xs).pure flatN && (D.tup ys).pure flatN && alike (.tup xs) (.tup ys)) = true
      · rw [if_pos c] at h
        have c1 := Bool.and_eq_true_iff.mp c
        have c2 := Bool.and_eq_true_iff.mp c1.1
        refine .inr ⟨_, _, dp_of m.F rx c2.1, dp_of m.F ry c2.2, ?_, c1.2, Nat.le_trans (pure_lay c2.1).2 (by decide), h ω H _ (Le.refl _) m (.bl _)⟩
        unfold D.pd
        intro z
        cases z
      · rw [if_neg c] at h
        exact h.elim
    | _ => exact h.elim
  | _ => exact h.elim
theorem k_ord {op : COp} {f : Int → Int → Bool} (ho : op = .lt ∨ op = .le ∨ op = .gt ∨ op = .ge) (he : ∀ i j, cmpop op (.int i) (.int j) M = .ok (.bl (f i j)) M) (hb : ∀ dx dy, (∀ i j, ¬ (dx = .int i ∧ dy = .int j)) → cmpop op dx dy M = .bad)
    (m : RepM T ω M H) (rx : RepD T ω dx x) (ry : RepD T ω dy y) (h : RP T W σ (RepD T) ω (cmpE E op dx dy M) (fun _ _ _ H' v => Q v H')) : rI0 (fun i j => .bl (f i j)) x y H Q := by
  rw [cmpE_lt ho] at h
  by_cases c : ∃ i j, dx = .int i ∧ dy = .int j
  · obtain ⟨i, j, rfl, rfl⟩ := c
    rw [he] at h
    exact ⟨i, j, rx.int_inv, ry.int_inv, h ω H _ (Le.refl _) m (.bl _)⟩
  · rw [hb _ _ fun i j z => c ⟨i, j, z⟩] at h
    exact h.elim
theorem k_le (m : RepM T ω M H) (rx : RepD T ω dx x) (ry : RepD T ω dy y) (h : RP T W σ (RepD T) ω (cmpE E .le dx dy M) (fun _ _ _ H' v => Q v H')) : rI0 (fun i j => .bl (decide (i ≤ j))) x y H Q :=
  k_ord (.inr (.inl rfl)) (fun _ _ => rfl) (fun dx dy n => by
    cases dx with
    | int i => cases dy with
      | int j => exact absurd ⟨rfl, rfl⟩ (n i j)
      | _ => rfl
    | _ => rfl) m rx ry h
theorem k_gt (m : RepM T ω M H) (rx : RepD T ω dx x) (ry : RepD T ω dy y) (h : RP T W σ (RepD T) ω (cmpE E .gt dx dy M) (fun _ _ _ H' v => Q v H')) : rI0 (fun i j => .bl (decide (j < i))) x y H Q :=
  k_ord (.inr (.inr (.inl rfl))) (fun _ _ => rfl) (fun dx dy n => by
    cases dx with
    | int i => cases dy with
      | int j => exact absurd ⟨rfl, rfl⟩ (n i j)
      | _ => rfl
    | _ => rfl) m rx ry h
theorem k_ge (m : RepM T ω M H) (rx : RepD T ω dx x) (ry : RepD T ω dy y) (h : RP T W σ (RepD T) ω (cmpE E .ge dx dy M) (fun _ _ _ H' v => Q v H')) : rI0 (fun i j => .bl (decide (j ≤ i))) x y H Q :=
  k_ord (.inr (.inr (.inr rfl))) (fun _ _ => rfl) (fun dx dy n => by
    cases dx with
    | int i => cases dy with
      | int j => exact absurd ⟨rfl, rfl⟩ (n i j)
      | _ => rfl
    | _ => rfl) m rx ry h
/-! ### in -/
theorem op_inT (hu : X.A.units + 65 < cLine) : OpR X (compareOp .In) (fun x y H Q => ∃ d ds, Dp X.K H x d ∧ Dp X.K H y (.tuple ds) ∧ SeqAt.shaped d = true ∧ SeqAt.shaped (.tuple ds) = true ∧ Q (.bl (ds.any fun z => PyData.eqv z d)) H) := by
  intro pins s σ H x y v u Q I rx ry h
  obtain ⟨d, ds, hd, he, sd, se, q⟩ := h
  obtain ⟨as, r1⟩ := Dp.reads I d x v hd rx
  obtain ⟨bs, r2⟩ := Dp.reads I (.tuple ds) y u he ry
  exact SeqAt.in_tuple_reads r2 r1 (SeqAt.canLay_of_shaped se) (SeqAt.canLay_of_shaped sd) (room_in_shaped sd hu) ⟨.bl _, H, I, rfl, q⟩
theorem op_notInT (hu : X.A.units + 65 < cLine) : OpR X (compareOp .NotIn) (fun x y H Q => ∃ d ds, Dp X.K H x d ∧ Dp X.K H y (.tuple ds) ∧ SeqAt.shaped d = true ∧ SeqAt.shaped (.tuple ds) = true ∧ Q (.bl (!ds.any fun z => PyData.eqv z d)) H) := by
  intro pins s σ H x y v u Q I rx ry h
  obtain ⟨d, ds, hd, he, sd, se, q⟩ := h
  obtain ⟨as, r1⟩ := Dp.reads I d x v hd rx
  obtain ⟨bs, r2⟩ := Dp.reads I (.tuple ds) y u he ry
  exact SeqAt.notIn_tuple_reads r2 r1 (SeqAt.canLay_of_shaped se) (SeqAt.canLay_of_shaped sd) (room_in_shaped sd hu) ⟨.bl _, H, I, rfl, q⟩
end
end Lc
end

section
set_option autoImplicit false
set_option linter.all false
set_option Elab.async false
set_option maxRecDepth 100000
/-! Lc: truth, and/or/not, conditional expressions, subscripts, slices, fields. -/
namespace Lc
open PySem L2 PySem.Spec PyProof.Rows

def truthR (x : D) (M : Store) : Res Bool := match truth M x with
  | some b => .ok b M
  | none => .bad
def evT (E : Fe) (ce : CE) (L : Loc) (M : Store) : Res Bool := (evE E ce L M).bind truthR
abbrev RB : Wd → Bool → Unit → Prop := fun _ _ _ => True
/-- a test's reading by the interpreter -/
def tT (T : Tx) (W : WX) (E : Fe) (ce : CE) : TT := fun σ H Q => ∃ (ω : Wd) (L : Loc) (M : Store), RepS T ω L σ ∧ RepM T ω M H ∧ RP T W σ RB ω (evT E ce L M) fun b _ _ H' _ => Q b H'
theorem _root_.L2.PT.imp {X : Cx} {e : Expr} {t t' : TT} (h : PT X e t) (k : ∀ σ H Q, t' σ H Q → t σ H Q) : PT X e t' := ⟨fun pins s σ H Q I q => h.run pins s σ H Q I (k σ H Q q)⟩
theorem _root_.L2.PW.imp {X : Cx} {e : Expr} {t t' : TT} (h : PW X e t) (k : ∀ σ H Q, t' σ H Q → t σ H Q) : PW X e t' := ⟨fun wh pins s σ H Q I q => h.run wh pins s σ H Q I (k σ H Q q)⟩
section
variable {T : Tx} {W : WX} {E : Fe} {X : Cx} {pos : Pos} {e a b c : Expr} {ca cb cc : CE} {σ : L2.St} {ω : Wd} {M : Store} {H : Hp} {dx : D} {x : V}
theorem truV_of (m : RepM T ω M H) (rx : RepD T ω dx x) {k : Bool} (h : truth M dx = some k) : TruV T.K x H k := by
  unfold truth at h
  cases ex : view M dx with
  | non => rw [ex] at h; obtain rfl := view_non ex; cases h; rw [rx.non_inv]; rfl
  | bl b => rw [ex] at h; obtain rfl := view_bl ex; cases h; rw [rx.bl_inv]; rfl
  | int i => rw [ex] at h; obtain rfl := view_int ex; cases h; rw [rx.int_inv]; rfl
  | str s =>
    rw [ex] at h
    obtain rfl := view_str ex
    rw [rx.str_inv]
    by_cases hz : s.length ≤ line
    · simp only [hz, if_true, Option.some.injEq] at h
      refine ⟨hz, h.symm.trans ?_⟩
      cases q : s.length with
      | zero => rfl
      | succ n =>
        rw [Bool.eq_iff_iff]
        simp
        omega
    · simp only [hz, if_false] at h
      cases h
  | tup xs =>
    rw [ex] at h
    obtain ⟨a, vs, rfl, h1, h2⟩ := m.tup rx ex
    cases h
    refine .inr (.inl ⟨vs, h1, ?_⟩)
    cases h2 <;> rfl
  | lst xs =>
    rw [ex] at h
    obtain ⟨a, vs, rfl, h1, h2⟩ := m.lst rx ex
    cases h
    refine .inl ⟨vs, h1, ?_⟩
    cases h2 <;> rfl
  | _ => rw [ex] at h; cases h
theorem rp_truth (m : RepM T ω M H) (rx : RepD T ω dx x) {Q : Bool → Hp → Prop} (h : RP T W σ RB ω (truthR dx M) fun b _ _ H' _ => Q b H') : ∃ k, TruV T.K x H k ∧ Q k H ∧ truth M dx = some k := by
  unfold truthR at h
  cases q : truth M dx with
  | none => rw [q] at h; exact h.elim
  | some k =>
    rw [q] at h
    exact ⟨k, truV_of m rx q, h ω H () (Le.refl _) m trivial, rfl⟩
/-- any expression as a test -/
theorem snd_truth (hK : X.K = T.K) (ha : PE X a (tD T W E ca)) (he : ∀ whole, isTrue a X.env whole = (do let v ← whole; standAt a.pos; holding [v] (truthy v))) : PT X a (tT T W E ca) := (pt_truth ha he).imp fun σ H Q ⟨ω, L, M, s, m, h⟩ => by
  unfold evT at h
  refine ⟨ω, L, M, s, m, (RP.bind (R := RepD T) h).imp fun x M1 ω1 H1 v l1 m1 q1 _ r1 => ?_⟩
  obtain ⟨k, h1, h2, _⟩ := rp_truth m1 q1 r1
  rw [hK]
  exact ⟨k, h1, h2⟩
theorem snd_not (hK : X.K = T.K) (ha : PE X a (tD T W E ca)) : PE X (.UnaryOp .Not a pos) (tD T W E (.not ca)) := (pe_notT ha).imp fun σ H Q ⟨ω, L, M, s, m, h⟩ => by
  unfold evE at h
  refine ⟨ω, L, M, s, m, (RP.bind (R := RepD T) h).imp fun x M1 ω1 H1 v l1 m1 q1 _ r1 => ?_⟩
  cases q : truth M1 x with
  | none => rw [q] at r1; exact r1.elim
  | some k =>
    rw [q] at r1
    rw [hK]
    exact ⟨k, truV_of m1 q1 q, r1 ω1 H1 _ (Le.refl _) m1 (.bl _)⟩
theorem res_bind_assoc {α β γ : Type} (r : Res α) (f : α → Store → Res β) (g : β → Store → Res γ) : (r.bind f).bind g = r.bind fun a M => (f a M).bind g := by
  cases r <;> rfl
theorem truth_bl (k : Bool) (M : Store) : truth M (.bl k) = some k := rfl
theorem sndT_not (ha : PT X a (tT T W E ca)) : PT X (.UnaryOp .Not a pos) (tT T W E (.not ca)) := (pt_not ha).imp fun σ H Q ⟨ω, L, M, s, m, h⟩ => by
  unfold evT evE at h
  refine ⟨ω, L, M, s, m, ?_⟩
  unfold evT
  rw [res_bind_assoc] at h
  cases q : evE E ca L M with
  | ok x M1 =>
    rw [q] at h
    have h : RP T W σ RB ω ((match truth M1 x with | some b => .ok (.bl (!b)) M1 | none => .bad : Res D).bind truthR) fun b _ _ H' _ => Q b H' := h
    show RP T W σ RB ω (truthR x M1) _
    unfold truthR
    cases q2 : truth M1 x with
    | none => rw [q2] at h; exact h
    | some k => rw [q2] at h; exact h
  | exc x M1 => rw [q] at h; exact h
  | bad => rw [q] at h; exact h
/-! ### and, or -/
theorem evConj_two (x y : CE) (es : List CE) (L : Loc) (M : Store) : evConj E (x :: y :: es) L M = (evE E x L M).bind fun v M1 => match truth M1 v with
    | some true => evConj E (y :: es) L M1
    | some false => .ok v M1
    | none => .bad := by rw [evConj] <;> first | rfl | (intro h; cases h)
theorem evDisj_two (x y : CE) (es : List CE) (L : Loc) (M : Store) : evDisj E (x :: y :: es) L M = (evE E x L M).bind fun v M1 => match truth M1 v with
    | some true => .ok v M1
    | some false => evDisj E (y :: es) L M1
    | none => .bad := by rw [evDisj] <;> first | rfl | (intro h; cases h)
theorem evConj_one (x : CE) (L : Loc) (M : Store) : evConj E [x] L M = evE E x L M := by rw [evConj]
theorem evDisj_one (x : CE) (L : Loc) (M : Store) : evDisj E [x] L M = evE E x L M := by rw [evDisj]
theorem snd_conj1 {op : BoolOp} (ha : PE X a (tD T W E ca)) : PE X (.BoolOp op [a] pos) (tD T W E (.conj [ca])) := (pe_one ha).imp fun σ H Q ⟨ω, L, M, s, m, h⟩ => by
  unfold evE at h
  rw [evConj_one] at h
  exact ⟨ω, L, M, s, m, h⟩
theorem snd_disj1 {op : BoolOp} (ha : PE X a (tD T W E ca)) : PE X (.BoolOp op [a] pos) (tD T W E (.disj [ca])) := (pe_one ha).imp fun σ H Q ⟨ω, L, M, s, m, h⟩ => by
  unfold evE at h
  rw [evDisj_one] at h
  exact ⟨ω, L, M, s, m, h⟩
theorem snd_conj {rest : List Expr} {cs : List CE} (hK : X.K = T.K) (ha : PE X a (tD T W E ca)) (hb : PE X (.BoolOp .And (b :: rest) pos) (tD T W E (.conj (cb :: cs)))) :
    PE X (.BoolOp .And (a :: b :: rest) pos) (tD T W E (.conj (ca :: cb :: cs))) := (pe_andT ha hb).imp fun σ H Q ⟨ω, L, M, s, m, h⟩ => by
  unfold evE at h
  rw [evConj_two] at h
  refine ⟨ω, L, M, s, m, (RP.bind (R := RepD T) h).imp fun x M1 ω1 H1 v l1 m1 q1 _ r1 => ?_⟩
  cases q : truth M1 x with
  | none => rw [q] at r1; exact r1.elim
  | some k =>
    rw [q] at r1
    rw [hK]
    refine ⟨k, truV_of m1 q1 q, ?_⟩
    cases k with
    | true =>
      rw [if_pos rfl]
      refine ⟨ω1, L, M1, s.mono l1, m1, ?_⟩
      unfold evE
      exact r1
    | false =>
      rw [if_neg Bool.false_ne_true]
      exact r1 ω1 H1 _ (Le.refl _) m1 q1
theorem snd_disj {rest : List Expr} {cs : List CE} (hK : X.K = T.K) (ha : PE X a (tD T W E ca)) (hb : PE X (.BoolOp .Or (b :: rest) pos) (tD T W E (.disj (cb :: cs)))) :
    PE X (.BoolOp .Or (a :: b :: rest) pos) (tD T W E (.disj (ca :: cb :: cs))) := (pe_orT ha hb).imp fun σ H Q ⟨ω, L, M, s, m, h⟩ => by
  unfold evE at h
  rw [evDisj_two] at h
  refine ⟨ω, L, M, s, m, (RP.bind (R := RepD T) h).imp fun x M1 ω1 H1 v l1 m1 q1 _ r1 => ?_⟩
  cases q : truth M1 x with
  | none => rw [q] at r1; exact r1.elim
  | some k =>
    rw [q] at r1
    rw [hK]
    refine ⟨k, truV_of m1 q1 q, ?_⟩
    cases k with
    | false =>
      rw [if_neg Bool.false_ne_true]
      refine ⟨ω1, L, M1, s.mono l1, m1, ?_⟩
      unfold evE
      exact r1
    | true =>
      rw [if_pos rfl]
      exact r1 ω1 H1 _ (Le.refl _) m1 q1
theorem sndT_conj1 (ha : PT X a (tT T W E ca)) : PW X (.BoolOp .And [a] pos) (tT T W E (.conj [ca])) := (pw_and1 ha).imp fun σ H Q ⟨ω, L, M, s, m, h⟩ => by
  unfold evT evE at h
  rw [evConj_one] at h
  exact ⟨ω, L, M, s, m, h⟩
theorem sndT_disj1 (ha : PT X a (tT T W E ca)) : PW X (.BoolOp .Or [a] pos) (tT T W E (.disj [ca])) := (pw_or1 ha).imp fun σ H Q ⟨ω, L, M, s, m, h⟩ => by
  unfold evT evE at h
  rw [evDisj_one] at h
  exact ⟨ω, L, M, s, m, h⟩
theorem sndT_conj {rest : List Expr} {cs : List CE} (ha : PT X a (tT T W E ca)) (hb : PW X (.BoolOp .And (b :: rest) pos) (tT T W E (.conj (cb :: cs)))) :
    PW X (.BoolOp .And (a :: b :: rest) pos) (tT T W E (.conj (ca :: cb :: cs))) := (pw_and ha hb).imp fun σ H Q ⟨ω, L, M, s, m, h⟩ => by
  unfold evT evE at h
  rw [evConj_two, res_bind_assoc] at h
  refine ⟨ω, L, M, s, m, ?_⟩
  unfold evT
  cases q : evE E ca L M with
  | ok x M1 =>
    rw [q] at h
    simp only [Res.bind_ok] at h ⊢
    unfold truthR
    cases q2 : truth M1 x with
    | none => rw [q2] at h; exact h
    | some k =>
      rw [q2] at h
      cases k with
      | true =>
        intro ω1 H1 _ l1 m1 _
        rw [if_pos rfl]
        refine ⟨ω1, L, M1, s.mono l1, m1, ?_⟩
        unfold evT evE
        simp only at h
        revert h
        cases evConj E (cb :: cs) L M1 with
        | ok y M2 =>
          intro h
          simp only [Res.bind_ok] at h ⊢
          revert h
          cases truthR y M2 with
          | ok t M3 => exact fun h ω2 H2 u l2 m2 q2 => h ω2 H2 u (l1.trans l2) m2 q2
          | exc t M3 => exact fun h ω2 H2 u d l2 m2 q2 => h ω2 H2 u d (l1.trans l2) m2 q2
          | bad => exact fun h => h
        | exc t M3 => exact fun h ω2 H2 u d l2 m2 q2 => h ω2 H2 u d (l1.trans l2) m2 q2
        | bad => exact fun h => h
      | false =>
        intro ω1 H1 _ l1 m1 _
        rw [if_neg Bool.false_ne_true]
        simp only [Res.bind_ok] at h
        unfold truthR at h
        rw [q2] at h
        exact h ω1 H1 () l1 m1 trivial
  | exc x M1 => rw [q] at h; exact h
  | bad => rw [q] at h; exact h
theorem sndT_disj {rest : List Expr} {cs : List CE} (ha : PT X a (tT T W E ca)) (hb : PW X (.BoolOp .Or (b :: rest) pos) (tT T W E (.disj (cb :: cs)))) :
    PW X (.BoolOp .Or (a :: b :: rest) pos) (tT T W E (.disj (ca :: cb :: cs))) := (pw_or ha hb).imp fun σ H Q ⟨ω, L, M, s, m, h⟩ => by
  unfold evT evE at h
  rw [evDisj_two, res_bind_assoc] at h
  refine ⟨ω, L, M, s, m, ?_⟩
  unfold evT
  cases q : evE E ca L M with
  | ok x M1 =>
    rw [q] at h
    simp only [Res.bind_ok] at h ⊢
    unfold truthR
    cases q2 : truth M1 x with
    | none => rw [q2] at h; exact h
    | some k =>
      rw [q2] at h
      cases k with
      | false =>
        intro ω1 H1 _ l1 m1 _
        rw [if_neg Bool.false_ne_true]
        refine ⟨ω1, L, M1, s.mono l1, m1, ?_⟩
        unfold evT evE
        simp only at h
        revert h
        cases evDisj E (cb :: cs) L M1 with
        | ok y M2 =>
          intro h
          simp only [Res.bind_ok] at h ⊢
          revert h
          cases truthR y M2 with
          | ok t M3 => exact fun h ω2 H2 u l2 m2 q2 => h ω2 H2 u (l1.trans l2) m2 q2
          | exc t M3 => exact fun h ω2 H2 u d l2 m2 q2 => h ω2 H2 u d (l1.trans l2) m2 q2
          | bad => exact fun h => h
        | exc t M3 => exact fun h ω2 H2 u d l2 m2 q2 => h ω2 H2 u d (l1.trans l2) m2 q2
        | bad => exact fun h => h
      | true =>
        intro ω1 H1 _ l1 m1 _
        rw [if_pos rfl]
        simp only [Res.bind_ok] at h
        unfold truthR at h
        rw [q2] at h
        exact h ω1 H1 () l1 m1 trivial
  | exc x M1 => rw [q] at h; exact h
  | bad => rw [q] at h; exact h
/-! ### a if c else b -/
theorem snd_ite (hc : PT X c (tT T W E cc)) (ha : PE X a (tD T W E ca)) (hb : PE X b (tD T W E cb)) : PE X (.IfExp c a b pos) (tD T W E (.ite cc ca cb)) := (pe_ifExp hc ha hb).imp fun σ H Q ⟨ω, L, M, s, m, h⟩ => by
  unfold evE at h
  refine ⟨ω, L, M, s, m, ?_⟩
  unfold evT
  cases q : evE E cc L M with
  | ok x M1 =>
    rw [q] at h
    simp only [Res.bind_ok] at h ⊢
    unfold truthR
    cases q2 : truth M1 x with
    | none => rw [q2] at h; exact h
    | some k =>
      rw [q2] at h
      intro ω1 H1 _ l1 m1 _
      cases k with
      | true =>
        rw [if_pos rfl]
        refine ⟨ω1, L, M1, s.mono l1, m1, ?_⟩
        simp only at h
        revert h
        cases evE E ca L M1 with
        | ok t M3 => exact fun h ω2 H2 u l2 m2 q2 => h ω2 H2 u (l1.trans l2) m2 q2
        | exc t M3 => exact fun h ω2 H2 u d l2 m2 q2 => h ω2 H2 u d (l1.trans l2) m2 q2
        | bad => exact fun h => h
      | false =>
        rw [if_neg Bool.false_ne_true]
        refine ⟨ω1, L, M1, s.mono l1, m1, ?_⟩
        simp only at h
        revert h
        cases evE E cb L M1 with
        | ok t M3 => exact fun h ω2 H2 u l2 m2 q2 => h ω2 H2 u (l1.trans l2) m2 q2
        | exc t M3 => exact fun h ω2 H2 u d l2 m2 q2 => h ω2 H2 u d (l1.trans l2) m2 q2
        | bad => exact fun h => h
  | exc x M1 => rw [q] at h; exact h
  | bad => rw [q] at h; exact h
theorem snd_neg (ha : PE X a (tD T W E ca)) : PE X (.UnaryOp .USub a pos) (tD T W E (.neg ca)) := (pe_un un_neg ha).imp fun σ H Q ⟨ω, L, M, s, m, h⟩ => by
  unfold evE at h
  refine ⟨ω, L, M, s, m, (RP.bind (R := RepD T) h).imp fun x M1 ω1 H1 v l1 m1 q1 _ r1 => ?_⟩
  cases x with
  | int i => exact ⟨i, q1.int_inv, r1 ω1 H1 _ (Le.refl _) m1 (.int _)⟩
  | _ => exact r1.elim
end
end Lc
end

section
set_option autoImplicit false
set_option linter.all false
set_option Elab.async false
set_option maxRecDepth 100000
/-! Lc: what a def promises; its call; statements' readings. -/
namespace Lc
open PySem L2 PySem.Spec PyProof.Rows

section
variable {T : Tx} {ω : Wd}
mutual
/-- what lies in a world names its places alone -/
theorem RepD.under : ∀ {d : D} {v : V}, RepD T ω d v → d.under ω.ρ.length = true
  | _, _, .non => rfl
  | _, _, .bl _ => rfl
  | _, _, .int _ => rfl
  | _, _, .str _ => rfl
  | _, _, .tup _ r => by unfold D.under; exact RepL.under r
  | _, _, .lst _ r => by unfold D.under; exact RepL.under r
  | _, _, .dicK _ r s => by unfold D.under; rw [RepL.under r, RepL.under s]; rfl
  | _, _, .dicT _ _ r s => by unfold D.under; rw [RepL.under r, RepL.under s]; rfl
  | _, _, .obj _ _ _ r => by unfold D.under; exact RepL.under r
  | _, _, .loc h => by unfold D.under; exact decide_eq_true (List.getElem?_eq_some_iff.mp h).1
  | _, _, .cls _ => rfl
theorem RepL.under : ∀ {d : List D} {v : List V}, RepL T ω d v → D.underL ω.ρ.length d = true
  | _, _, .nil => rfl
  | _, _, .cons r t => by unfold D.underL; rw [RepD.under r, RepL.under t]; rfl
end
theorem RepO.under {H : Hp} {a : Addr} {q : AO} (r : RepO T ω H a q) : q.under ω.ρ.length = true := by
  cases r with
  | lst _ r => exact r.under
  | dicK _ r s => simp only [AO.under, r.under, s.under]; rfl
  | dicT _ _ r s => simp only [AO.under, r.under, s.under]; rfl
  | obj _ _ _ _ r => exact r.under
theorem RepO.cut {H : Hp} {a : Addr} {q : AO} (n : Nat) (r : RepO T ω H a q) (u : q.under n = true) : RepO T ⟨ω.F, ω.ρ.take n⟩ H a q := by
  cases r with
  | lst h r => exact .lst h (r.cut n u)
  | dicK h r s =>
    have u' := Bool.and_eq_true_iff.mp (by simpa only [AO.under] using u)
    exact .dicK h (r.cut n u'.1) (s.cut n u'.2)
  | dicT h e r s =>
    have u' := Bool.and_eq_true_iff.mp (by simpa only [AO.under] using u)
    exact .dicT h e (r.cut n u'.1) (s.cut n u'.2)
  | obj h e f z r => exact .obj h e f z (r.cut n u)
theorem sameU_at {n : Nat} : ∀ {A B : Store} {k : Nat} {x y : AO}, sameU n A B = true → A[k]? = some x → B[k]? = some y → x = y ∨ y.under n = true
  | [], _, _, _, _, _, h, _ => by simp at h
  | x :: xs, [], _, _, _, h, _, _ => by simp [sameU] at h
  | x :: xs, y :: ys, 0, a, b, h, h1, h2 => by
    have h' := Bool.and_eq_true_iff.mp (by simpa only [sameU] using h)
    simp only [List.getElem?_cons_zero, Option.some.injEq] at h1 h2
    subst h1 h2
    rcases Bool.or_eq_true_iff.mp h'.1 with q | q
    · exact .inl (of_decide_eq_true q)
    · exact .inr q
  | x :: xs, y :: ys, k + 1, a, b, h, h1, h2 => by
    have h' := Bool.and_eq_true_iff.mp (by simpa only [sameU] using h)
    exact sameU_at h'.2 (by simpa using h1) (by simpa using h2)
theorem sameU_len {n : Nat} : ∀ {A B : Store}, sameU n A B = true → A.length ≤ B.length
  | [], _, _ => Nat.zero_le _
  | x :: xs, [], h => by simp [sameU] at h
  | x :: xs, y :: ys, h => by
    have h' := Bool.and_eq_true_iff.mp (by simpa only [sameU] using h)
    simpa using sameU_len h'.2
/-- a call's end: what the callee made is let go -/
theorem rp_trunc {M0 M' : Store} {H0 H' : Hp} {ω' : Wd} {v : D} {v' : V} {W : WX} {σ : L2.St} {C : D → Store → Wd → Hp → V → Prop} (m0 : RepM T ω M0 H0) (l : Le ω ω') (m : RepM T ω' M' H') (r : RepD T ω' v v')
    (h : RP T W σ (RepD T) ω (trunc M0 v M') C) : ∃ ω'' M'', C v M'' ω'' H' v' := by
  unfold trunc at h
  by_cases c : (v.under M0.length && sameU M0.length M0 M') = true
  · rw [if_pos c] at h
    have c' := Bool.and_eq_true_iff.mp c
    have hl := sameU_len c'.2
    have en : M0.length = ω.ρ.length := m0.len.symm
    have et : ω'.ρ.take M0.length = ω.ρ := by
      obtain ⟨t, e⟩ := l.ρ
      rw [← e, en, List.take_left]
    refine ⟨⟨ω'.F, ω'.ρ.take M0.length⟩, _, h _ H' v' ⟨l.F, by rw [et]; exact List.prefix_refl _⟩ ⟨m.F, ?_, fun k o e nd => ?_, fun i j b p p' h1 h2 h3 h4 n1 n2 => ?_⟩ (r.cut _ c'.1)⟩
    · show (ω'.ρ.take M0.length).length = (M'.take M0.length).length
      rw [List.length_take, List.length_take, m.len]
    · have hk : k < M0.length := by
        have := (List.getElem?_eq_some_iff.mp e).1
        rw [List.length_take] at this
        omega
      rw [List.getElem?_take, if_pos hk] at e
      obtain ⟨a, h1, h2, h3⟩ := m.at_ k o e nd
      refine ⟨a, ?_, h2, h3.cut _ ?_⟩
      · show (ω'.ρ.take M0.length)[k]? = some a
        rw [List.getElem?_take, if_pos hk]
        exact h1
      · obtain ⟨x, hx⟩ : ∃ x, M0[k]? = some x := ⟨_, List.getElem?_eq_getElem hk⟩
        rcases sameU_at c'.2 hx e with q | q
        · subst q
          obtain ⟨_, _, _, q3⟩ := m0.at_ k x hx nd
          rw [en]
          exact q3.under
        · exact q
    · have lt : ∀ {k : Nat} {q : AO}, (M'.take M0.length)[k]? = some q → k < M0.length ∧ M'[k]? = some q := fun {k q} e => by
        have hk : k < M0.length := by
          have := (List.getElem?_eq_some_iff.mp e).1
          rw [List.length_take] at this
          omega
        rw [List.getElem?_take, if_pos hk] at e
        exact ⟨hk, e⟩
      obtain ⟨k1, e1⟩ := lt h3
      obtain ⟨k2, e2⟩ := lt h4
      have h1' : ω'.ρ[i]? = some b := by
        have h1 : (ω'.ρ.take M0.length)[i]? = some b := h1
        rw [List.getElem?_take, if_pos k1] at h1
        exact h1
      have h2' : ω'.ρ[j]? = some b := by
        have h2 : (ω'.ρ.take M0.length)[j]? = some b := h2
        rw [List.getElem?_take, if_pos k2] at h2
        exact h2
      exact m.inj i j b p p' h1' h2' e1 e2 n1 n2
  · rw [if_neg c] at h
    exact ⟨ω', M', h ω' H' v' l m r⟩
end

/-! ### statements' readings -/
section
variable (T : Tx) (W : WX) (E : Fe)
def SRP (ω : Wd) (r : SR) (D : Ends) : Prop := match r with
  | .nx L M => ∀ (ω' : Wd) (H' : Hp) (σ' : L2.St), Le ω ω' → RepS T ω' L σ' → RepM T ω' M H' → D.nx σ' H'
  | .rt v M => ∀ (ω' : Wd) (H' : Hp) (v' : V), Le ω ω' → RepM T ω' M H' → RepD T ω' v v' → D.rt v' H'
  | .bk L M => ∀ (ω' : Wd) (H' : Hp) (σ' : L2.St), Le ω ω' → RepS T ω' L σ' → RepM T ω' M H' → D.bk σ' H'
  | .ct L M => ∀ (ω' : Wd) (H' : Hp) (σ' : L2.St), Le ω ω' → RepS T ω' L σ' → RepM T ω' M H' → D.ct σ' H'
  | .exc x L M => ∀ (ω' : Wd) (H' : Hp) (σ' : L2.St) (cls : Value) (d : Option Addr), Le ω ω' → RepS T ω' L σ' → RepM T ω' M H' → RepX T ω' x cls d H' → W cls d σ' H'
  | .bad => False
def tS (s : CS) : TS := fun D σ H => ∃ (ω : Wd) (L : Loc) (M : Store), RepS T ω L σ ∧ RepM T ω M H ∧ SRP T W ω (evS E s L M) D
def tSs (s : List CS) : TS := fun D σ H => ∃ (ω : Wd) (L : Loc) (M : Store), RepS T ω L σ ∧ RepM T ω M H ∧ SRP T W ω (evB E s L M) D
end
theorem _root_.L2.PS.imp {X : Cx} {e : Stmt} {t t' : TS} (h : PS X e t) (k : ∀ D σ H, t' D σ H → t D σ H) : PS X e t' := ⟨fun pins s σ H D I q => h.run pins s σ H D I (k D σ H q)⟩
theorem _root_.L2.PSs.imp {X : Cx} {e : List Stmt} {t t' : TS} (h : PSs X e t) (k : ∀ D σ H, t' D σ H → t D σ H) : PSs X e t' := ⟨fun pins s σ H D I q => h.run pins s σ H D I (k D σ H q)⟩
theorem SRP.le {T : Tx} {W : WX} {ω ω1 : Wd} {r : SR} {D : Ends} (l : Le ω ω1) (h : SRP T W ω r D) : SRP T W ω1 r D := by
  cases r with
  | nx L M => exact fun ω' H' σ' l' => h ω' H' σ' (l.trans l')
  | rt v M => exact fun ω' H' v' l' => h ω' H' v' (l.trans l')
  | bk L M => exact fun ω' H' σ' l' => h ω' H' σ' (l.trans l')
  | ct L M => exact fun ω' H' σ' l' => h ω' H' σ' (l.trans l')
  | exc x L M => exact fun ω' H' σ' c d l' => h ω' H' σ' c d (l.trans l')
  | bad => exact h
theorem RP.le {T : Tx} {W : WX} {σ : L2.St} {α β : Type} {R : Wd → α → β → Prop} {ω ω1 : Wd} {r : Res α} {C : α → Store → Wd → Hp → β → Prop} (l : Le ω ω1) (h : RP T W σ R ω r C) : RP T W σ R ω1 r C := by
  cases r with
  | ok a M => exact fun ω' H' v l' => h ω' H' v (l.trans l')
  | exc x M => exact fun ω' H' c d l' => h ω' H' c d (l.trans l')
  | bad => exact h

/-! ### what a def promises -/
def feOf (G : Prg) (k : Nat) : Fe := ⟨callN G k, G.meth, G.fld, G.prop, G.cmet⟩
abbrev WE0 (Ex : XK) : WX := fun cls d _ H => Ex cls d H
def spF (G : Prg) (T : Tx) (k f : Nat) (np : Nat) : Sp := fun vs H Q Ex => vs.length = np ∧ ∃ (ω : Wd) (as : List D) (M : Store), RepL T ω as vs ∧ RepM T ω M H ∧
  RP T (WE0 Ex) [] (RepD T) ω (callN G k f as M) fun _ _ _ H' v => Q v H'
theorem rp_out {T : Tx} {ω : Wd} {M0 : Store} {H0 : Hp} {r : SR} {Q : VK} {Ex : XK} (m0 : RepM T ω M0 H0) (h : RP T (WE0 Ex) [] (RepD T) ω (outOf M0 r) fun _ _ _ H' v => Q v H') :
    SRP T (WE0 Ex) ω r { nx := fun _ H' => Q .non H', rt := Q } := by
  cases r with
  | nx L M =>
    intro ω' H' σ' l s m
    obtain ⟨_, _, q⟩ := rp_trunc m0 l m (.non) h
    exact q
  | rt v M =>
    intro ω' H' v' l m r
    obtain ⟨_, _, q⟩ := rp_trunc m0 l m r h
    exact q
  | bk L M => exact h.elim
  | ct L M => exact h.elim
  | exc x L M => exact fun ω' H' σ' c d l s m x => h ω' H' c d l m x
  | bad => exact h.elim
theorem start_rep {T : Tx} {ω : Wd} {as : List D} {vs : List V} {N : List Str} {ns : Nat} (r : RepL T ω as vs) (hn : N.length = ns) (hl : as.length ≤ ns) : RepS T ω (as.map some ++ List.replicate (ns - as.length) none) (L2.start N vs) := by
  have el := r.length
  unfold L2.start
  refine ⟨by simp; omega, fun i d h => ?_⟩
  by_cases hi : i < as.length
  · rw [List.getElem?_append_left (by simpa using hi), List.getElem?_map] at h
    cases q : as[i]? with
    | none => rw [q] at h; cases h
    | some e =>
      rw [q] at h
      cases h
      obtain ⟨v, h1, h2⟩ := r.get q
      refine ⟨v, ?_, h2⟩
      rw [List.getElem?_append_left (by rw [List.length_map, ← el]; exact hi), List.getElem?_map, h1]
      rfl
  · rw [List.getElem?_append_right (by simpa using hi)] at h
    rw [List.getElem?_replicate] at h
    split at h
    · cases h
    · cases h

theorem e_in {P : Program} {w : World} {K : PySem.W.Frag} {mg : Str → Option Value} {base : Heap} {A : Around} {outer : List Env} {s : Shared} {H : Hp} (e : Env0 P w K mg base A outer s H) : K.In s.heap := e.mod.kin.keeps fun b o q => (e.bs b o q).1
/-- a def's promise where nothing is being shown -/
structure DefOk (P : Program) (w : World) (K : PySem.W.Frag) (mg : Str → Option Value) (base : Heap) (k : Nat) (f : Addr) (fd : FuncData) (ps : List Str) (sp : Sp) : Prop where
  len : ∀ vs H Q E, sp vs H Q E → vs.length = ps.length
  run : ∀ (A : Around) (outer : List Env) (s : Shared) (H : Hp) (args : Args) (us : List Value) (vs : List V) (Q : VK) (E : XK), Room k A → A.guards = some [] → Env0 P w K mg base A outer s H → BindsTo s fd args (ps.zip us) → Vals vs us → sp vs H Q E →
    codeAny (model P w) A (.call (.ref f) args) (CR (L2.CX P w) outer P w H s Q E) s
/-- a def, by its body -/
theorem def_ok {P : Program} {w : World} {K : PySem.W.Frag} {mg : Str → Option Value} {base : Heap} {k : Nat} {x qual : Str} {params : Arguments} {body : List Stmt} {scope : Scope} {dvs : List V} {kws : List (Str × V)} {f : Addr} {fd : FuncData} {N ps : List Str} {sp : Sp}
    (F : FunD K x qual params body scope dvs kws f fd) (S : FnScope N ps scope) (hlen : ∀ vs H Q E, sp vs H Q E → vs.length = ps.length)
    (hb : ∀ (cdv : Value) (A : Around) (outer : List Env) (s : Shared) (H : Hp) (vs : List V) (Q : VK) (E : XK), Room k (A.deeper (envOfC qual scope s.heap.objs.size f cdv)) → A.guards = some [] → sp vs H Q E →
      ∃ t, PSs (cxOf (L2.CX P w) P w K mg base N qual scope f cdv A outer s H E) body t ∧ t { nx := fun _ H' => Q .non H', rt := Q } (L2.start N vs) H) : DefOk P w K mg base (k + 1) f fd ps sp := by
  obtain ⟨_, _, _, _, _, _, _, cd, _, _, rfl, at_, cdk, _, _⟩ := F.ex
  constructor
  · exact hlen
  · intro A outer s H args us vs Q E room gds en binds rel want
    have inK : K.In s.heap := e_in en
    have kinds : ∀ y ∈ ps.zip us, scope.names.lookup y.1 = some .local ∨ (scope.names.lookup y.1 = some .cell ∧ ((cellsFrom (s.heap.objs.size + 1) scope.names []).lookup y.1).isSome = true) := by
      intro y hy
      have hm := (List.of_mem_zip (show (y.1, y.2) ∈ ps.zip us from hy)).1
      exact (S.par y.1 hm).elim .inl fun z => .inr ⟨z, PySem.W.cellsFrom_some _ _ _ (.inl z)⟩
    refine codeAny_call_function room.depth (inK _ _ at_) rfl S.co S.gen rfl (PySem.W.codeRec_of inK cdk) (binds _ _ _ _ (wpAny_newFunctionEnv_cells S.kind kinds ?_))
    rintro env rfl s1 made
    obtain ⟨t, run, now⟩ := hb cd A outer s H vs Q E (room.deeper _) gds want
    have start := inv_start (CX := L2.CX P w) (E := E) (cd := cd) (f := f) (qual := qual) S room.hd en (hlen _ _ _ _ want) rel made
    refine ⟨(en.mod.nolimit.keeps fun b o q => (en.bs b o q).1).keeps made.toInCall.keep, codeAny_func ?_⟩
    refine wpAny_mono (run.run [] s1 (L2.start N vs) H _ start now) (fun fl s2 out => ?_) fun _ _ out => out
    cases fl
    case next =>
      obtain ⟨σ2, H2, J, q⟩ := out
      exact ⟨.non, H2, J.os, J.bare, J.base, J.hok, rfl, q⟩
    case ret u =>
      obtain ⟨v, σ2, H2, J, rv, q⟩ := out
      exact ⟨v, H2, J.os, J.bare, J.base, J.hok, rv, q⟩
    case brk =>
      obtain ⟨_, _, _, no⟩ := out
      exact no.elim
    case cont =>
      obtain ⟨_, _, _, no⟩ := out
      exact no.elim
/-- the body of a def keeps its promise -/
theorem body_ok {P : Program} {w : World} {mg : Str → Option Value} {base : Heap} {G : Prg} {T : Tx} {k i : Nat} {d : Fn} {x qual : Str} {params : Arguments} {body : List Stmt} {scope : Scope} {dvs : List V} {kws : List (Str × V)} {f : Addr} {fd : FuncData} {N ps : List Str} (hd : G.fn i = some d)
    (F : FunD T.K x qual params body scope dvs kws f fd) (S : FnScope N ps scope) (hps : ps.length = d.np) (hN : N.length = d.ns)
    (hb : ∀ (cdv : Value) (A : Around) (outer : List Env) (s : Shared) (H : Hp) (Ex : XK), Room (4 * k + 3) (A.deeper (envOfC qual scope s.heap.objs.size f cdv)) → A.guards = some [] →
      PSs (cxOf (L2.CX P w) P w T.K mg base N qual scope f cdv A outer s H Ex) body (tSs T (WE0 Ex) (feOf G k) d.body)) :
    DefOk P w T.K mg base (4 * (k + 1)) f fd ps (spF G T (k + 1) i d.np) := by
  refine def_ok (k := 4 * k + 3) F S (fun vs H Q E h => by rw [hps]; exact h.1) fun cdv A outer s H vs Q E hr hg h => ?_
  obtain ⟨hl, ω, as, M, r, m, h⟩ := h
  refine ⟨_, hb cdv A outer s H E hr hg, ω, as.map some ++ List.replicate (d.ns - d.np) none, M, ?_, m, ?_⟩
  · have el : as.length = d.np := r.length.trans hl
    have q := start_rep (N := N) (ns := d.ns) r hN (by
      have h1 := S.pre
      have h2 : ps.length ≤ N.length := by
        have := congrArg List.length h1
        rw [List.length_take] at this
        omega
      omega)
    rw [el] at q
    exact q
  · have el : as.length = d.np := r.length.trans hl
    simp only [callN, hd] at h
    rw [if_pos el] at h
    exact rp_out m h
/-- the callee runs -/
theorem run_def {G : Prg} {T : Tx} {k i np : Nat} {X : Cx} {f : Addr} {fd : FuncData} {ps : List Str} {W : WX} (F : DefOk X.prog X.w X.K X.mg X.base (4 * k) f fd ps (spF G T k i np)) (hr : Room (4 * k) X.A) (hgd : X.A.guards = some []) (tk : Takes X W)
    {pins : List (Addr × Obj)} {σ : L2.St} {H : Hp} {s : Shared} {Q : VK} {us us' : List Value} {kw : List (Str × Value)} {vs : List V} {as : List D} {ω : Wd} {M : Store} (hb : BindsTo s fd ⟨us, kw⟩ (ps.zip us')) (r : Vals vs us')
    (I : Inv X pins σ H s) (ra : RepL T ω as vs) (m : RepM T ω M H) (hl : vs.length = np) (h : RP T W σ (RepD T) ω (callN G k i as M) fun _ _ _ H' v => Q v H') :
    wpAny (model X.prog X.w) X.A (call (.ref f) us kw) (EP X pins σ Q) X.xe s := by
  refine wpAny_call (codeAny_mono (F.run X.A X.stack s H ⟨us, kw⟩ us' vs Q (fun cls d H => W cls d σ H) hr hgd I.env0 hb r ⟨hl, ω, as, M, ra, m, ?_⟩) fun r s' hq => ?_)
  · cases e : callN G k i as M with
    | ok a M' => rw [e] at h; exact h
    | exc x M' => rw [e] at h; exact h
    | bad => rw [e] at h; exact h
  · cases r with
    | error e => exact passAt (W := W) tk σ pins H s e s' I hq
    | ok fl =>
      cases fl with
      | ret u => exact I.after hq
      | next => exact False.elim hq
      | brk => exact False.elim hq
      | cont => exact False.elim hq
end Lc
end

section
set_option autoImplicit false
set_option linter.all false
set_option Elab.async false
set_option maxRecDepth 100000
/-! Lc: chains, subscripts, slices, fields, in, built-in functions. -/
namespace Lc
open PySem L2 PySem.Spec PyProof.Rows

section
variable {T : Tx} {W : WX} {E : Fe} {X : Cx} {pos : Pos} {e a b c : Expr} {ca cb cc : CE} {σ : L2.St} {ω : Wd} {M : Store} {H : Hp} {dx dy : D} {x y : V} {Q : VK}
/-- an operator's rule and its case -/
def OpK (T : Tx) (W : WX) (E : Fe) (X : Cx) (op : CmpOp) (cop : COp) : Prop := ∃ r : R2, OpR X (compareOp op) r ∧
  ∀ σ Q ω M dx dy x y H, RepM T ω M H → RepD T ω dx x → RepD T ω dy y → RP T W σ (RepD T) ω (cmpE E cop dx dy M) (fun _ _ _ H' v => Q v H') → r x y H Q
theorem snd_cmpK {op : CmpOp} {cop : COp} (k : OpK T W E X op cop) (hm : behindInMarks op b = false) (ha : PE X a (tD T W E ca)) (hb : PE X b (tD T W E cb)) : PE X (.Compare a [op] [b] pos) (tD T W E (.cmp cop ca cb)) := by
  obtain ⟨r, h1, h2⟩ := k
  exact snd_cmp h1 hm h2 ha hb
theorem snd_cmp2 {op op' : CmpOp} {cop cop' : COp} (k : OpK T W E X op cop) (k' : OpK T W E X op' cop') (hm : lastMarks [op, op'] [b, c] = false) (ha : PE X a (tD T W E ca)) (hb : PE X b (tD T W E cb)) (hc : PE X c (tD T W E cc)) :
    PE X (.Compare a [op, op'] [b, c] pos) (tD T W E (.cmp2 cop cop' ca cb cc)) := by
  obtain ⟨r, h1, h2⟩ := k
  obtain ⟨r', h1', h2'⟩ := k'
  refine (pe_chain h1 h1' ha hb hc hm).imp fun σ H Q ⟨ω, L, M, s, m, h⟩ => ?_
  unfold evE at h
  refine ⟨ω, L, M, s, m, (RP.bind (R := RepD T) h).imp fun x M1 ω1 H1 v l1 m1 q1 _ r1 => ?_⟩
  refine ⟨ω1, L, M1, s.mono l1, m1, (RP.bind (R := RepD T) r1).imp fun y M2 ω2 H2 u l2 m2 q2 _ r2 => ?_⟩
  refine h2 σ _ ω2 M2 x y v u H2 m2 (q1.mono l2) q2 ((RP.bind (R := RepD T) r2).imp fun z M3 ω3 H3 t l3 m3 q3 _ r3 => ?_)
  cases z with
  | bl k =>
    refine ⟨k, q3.bl_inv, ?_⟩
    cases k with
    | true =>
      rw [if_pos rfl]
      refine ⟨ω3, L, M3, s.mono ((l1.trans l2).trans l3), m3, (RP.bind (R := RepD T) r3).imp fun z M4 ω4 H4 u4 l4 m4 q4 _ r4 => ?_⟩
      exact h2' σ Q ω4 M4 y z u u4 H4 m4 (q2.mono (l3.trans l4)) q4 r4
    | false =>
      rw [if_neg Bool.false_ne_true]
      rw [q3.bl_inv] at q3
      exact r3 ω3 H3 _ (Le.refl _) m3 (.bl _)
  | _ => exact r3.elim
theorem opK_lt (o : X.A.units + 200 < cLine) (hK : X.K = T.K) : OpK T W E X .Lt .lt := ⟨_, op_ltA o, fun σ Q ω M dx dy x y H m rx ry h => by rw [hK]; exact k_lt m rx ry h⟩
theorem opK_le : OpK T W E X .LtE .le := ⟨_, op_le, fun σ Q ω M dx dy x y H m rx ry h => k_le m rx ry h⟩
theorem opK_gt : OpK T W E X .Gt .gt := ⟨_, op_gt, fun σ Q ω M dx dy x y H m rx ry h => k_gt m rx ry h⟩
theorem opK_ge : OpK T W E X .GtE .ge := ⟨_, op_ge, fun σ Q ω M dx dy x y H m rx ry h => k_ge m rx ry h⟩
theorem opK_is : OpK T W E X .Is .is := ⟨_, op_isA, fun σ Q ω M dx dy x y H m rx ry h => k_is m rx ry h⟩
theorem opK_isN : OpK T W E X .IsNot .isNot := ⟨_, op_isNA, fun σ Q ω M dx dy x y H m rx ry h => k_isN m rx ry h⟩

/-! ### x[i] -/
theorem RepL.at {ω : Wd} {xs : List D} {vs : List V} {i : Int} {d : D} (r : RepL T ω xs vs) (h : L2.atI xs i = some d) : ∃ v, L2.atI vs i = some v ∧ RepD T ω d v := by
  unfold L2.atI at h ⊢
  rw [← r.length]
  cases q : L2.ixN xs.length i with
  | none => rw [q] at h; cases h
  | some j =>
    rw [q] at h
    exact r.get h
theorem k_index (m : RepM T ω M H) (rx : RepD T ω dx x) (ry : RepD T ω dy y) (h : RP T W σ (RepD T) ω (index dx dy M) (fun _ _ _ H' v => Q v H')) : rIx T.K x y H Q := by
  unfold index at h
  cases ex : view M dx with
  | tup xs =>
    rw [ex] at h
    obtain ⟨a, vs, rfl, h1, h2⟩ := m.tup rx ex
    cases dy with
    | int i =>
      cases q : L2.atI xs i with
      | none => simp only [q] at h; exact h.elim
      | some d =>
        simp only [q] at h
        obtain ⟨v, h3, h4⟩ := h2.at q
        exact .inr (.inl ⟨a, vs, i, v, rfl, ry.int_inv, h1, h3, h ω H v (Le.refl _) m h4⟩)
    | _ => exact h.elim
  | lst xs =>
    rw [ex] at h
    obtain ⟨a, vs, rfl, h1, h2⟩ := m.lst rx ex
    cases dy with
    | int i =>
      cases q : L2.atI xs i with
      | none => simp only [q] at h; exact h.elim
      | some d =>
        simp only [q] at h
        obtain ⟨v, h3, h4⟩ := h2.at q
        exact .inl ⟨a, vs, i, v, rfl, ry.int_inv, h1, h3, h ω H v (Le.refl _) m h4⟩
    | _ => exact h.elim
  | _ => rw [ex] at h; exact h.elim

/-! ### x[lo:hi] -/
theorem cutG_rep {xs : List D} {vs : List V} (r : RepL T ω xs vs) (lo hi : Option Int) : RepL T ω (cutG xs lo hi) (cutV vs lo hi) := by
  unfold cutG cutV
  rw [← r.length]
  exact (r.drop _).take _
theorem cutG_whole {xs : List D} {lo hi : Option Int} (h : HT.sIx xs.length 0 lo = 0 ∧ HT.sIx xs.length xs.length hi = xs.length) : cutG xs lo hi = xs := by
  unfold cutG
  rw [h.1, h.2, List.drop_zero, Nat.sub_zero, List.take_length]
def rSlA2 (K : PySem.W.Frag) : V → Option Int → Option Int → Hp → VK → Prop := fun x lo hi H Q => rSlF K x lo hi H Q ∨ rSlL K x lo hi H Q
theorem sl_A2 : SlR X (rSlA2 X.K) := sl_tupF.or sl_list
theorem k_slice {own : Bool} {lo hi : Option Int} (m : RepM T ω M H) (rx : RepD T ω dx x) (h : RP T W σ (RepD T) ω (slice own dx lo hi M) (fun _ _ _ H' v => Q v H')) : rSlA2 T.K x lo hi H Q := by
  unfold slice at h
  cases ex : view M dx with
  | tup xs =>
    rw [ex] at h
    obtain ⟨a, vs, rfl, h1, h2⟩ := m.tup rx ex
    obtain ⟨hz, _, hp, hs⟩ := rp_newT m (cutG_rep h2 lo hi) h
    refine .inl ⟨a, vs, rfl, h1, fun w => ?_, fun _ p us n hn => hp p us n hn⟩
    rw [← h2.length] at w
    refine hs _ ?_
    rw [cutG_whole w, ← view_tup ex]
    exact rx
  | lst xs =>
    rw [ex] at h
    obtain ⟨a, vs, rfl, h1, h2⟩ := m.lst rx ex
    obtain ⟨hz, hp⟩ := rp_newL m (cutG_rep h2 lo hi) h
    exact .inr ⟨a, vs, rfl, h1, hp⟩
  | _ => rw [ex] at h; exact h.elim
/-- an optional part of a slice, as the interpreter reads it -/
abbrev RU {α : Type} : Wd → α → Unit → Prop := fun _ _ _ => True
def tO (T : Tx) (W : WX) (E : Fe) (o : Option CE) : TO := fun σ H Q => ∃ (ω : Wd) (L : Loc) (M : Store), RepS T ω L σ ∧ RepM T ω M H ∧ RP T W σ RU ω (evO E o L M) fun d _ _ H' _ => Q d H'
theorem _root_.L2.PO.imp {X : Cx} {e : Option Expr} {t t' : TO} (h : PO X e t) (k : ∀ σ H Q, t' σ H Q → t σ H Q) : PO X e t' := ⟨fun pins s σ H Q I q => h.run pins s σ H Q I (k σ H Q q)⟩
theorem sndO_none : PO X none (tO T W E none) := po_none.imp fun σ H Q ⟨ω, L, M, s, m, h⟩ => by
  unfold evO at h
  exact h ω H () (Le.refl _) m trivial
theorem sndO_some (ha : PE X a (tD T W E ca)) : PO X (some a) (tO T W E (some ca)) := (po_some ha).imp fun σ H Q ⟨ω, L, M, s, m, h⟩ => by
  unfold evO at h
  refine ⟨ω, L, M, s, m, (RP.bind (R := RepD T) h).imp fun d M1 ω1 H1 v l1 m1 q1 _ r1 => ?_⟩
  cases d with
  | int i => exact ⟨i, q1.int_inv, r1 ω1 H1 () (Le.refl _) m1 trivial⟩
  | _ => exact r1.elim
theorem snd_cut {own : Bool} {lo hi : Option Expr} {cl ch : Option CE} {p2 : Pos} (hK : X.K = T.K) (ha : PE X a (tD T W E ca)) (hl : PO X lo (tO T W E cl)) (hh : PO X hi (tO T W E ch)) :
    PE X (.Subscript a (.Slice lo hi none p2) pos) (tD T W E (.cut own ca cl ch)) := (pe_slice sl_A2 ha hl hh).imp fun σ H Q ⟨ω, L, M, s, m, h⟩ => by
  unfold evE at h
  refine ⟨ω, L, M, s, m, (RP.bind (R := RepD T) h).imp fun x M1 ω1 H1 v l1 m1 q1 _ r1 => ?_⟩
  refine ⟨ω1, L, M1, s.mono l1, m1, (RP.bind (R := RU) r1).imp fun d M2 ω2 H2 _ l2 m2 _ _ r2 => ?_⟩
  refine ⟨ω2, L, M2, s.mono (l1.trans l2), m2, (RP.bind (R := RU) r2).imp fun d' M3 ω3 H3 _ l3 m3 _ _ r3 => ?_⟩
  rw [hK]
  exact k_slice m3 (q1.mono (l2.trans l3)) r3
theorem RepL.reverse : ∀ {xs : List D} {vs : List V}, RepL T ω xs vs → RepL T ω xs.reverse vs.reverse
  | _, _, .nil => .nil
  | _, _, .cons r t => by
    rw [List.reverse_cons, List.reverse_cons]
    exact t.reverse.append (.cons r .nil)
theorem snd_rev {own : Bool} {k : Nat} {p1 p2 p3 : Pos} (hK : X.K = T.K) (ha : PE X a (tD T W E ca)) : PE X (.Subscript a (.Slice none none (some (.UnaryOp .USub (.Constant (.int 1) k p1) p2)) p3) pos) (tD T W E (.rev own ca)) := (pe_revL ha).imp fun σ H Q ⟨ω, L, M, s, m, h⟩ => by
  unfold evE at h
  refine ⟨ω, L, M, s, m, (RP.bind (R := RepD T) h).imp fun x M1 ω1 H1 v l1 m1 q1 e1 r1 => ?_⟩
  cases ex : view M1 x with
  | lst xs =>
    rw [ex] at r1
    obtain ⟨b, vs, rfl, h1, h2⟩ := m1.lst q1 ex
    obtain ⟨_, hp⟩ := rp_newL m1 h2.reverse r1
    rw [hK]
    exact ⟨b, vs, rfl, h1, hp⟩
  | _ => rw [ex] at r1; exact r1.elim

/-! ### in -/
def rInA (K : PySem.W.Frag) : R2 := fun x y H Q => rInD K x y H Q ∨ (∃ d ds, Dp K H x d ∧ Dp K H y (.tuple ds) ∧ SeqAt.shaped d = true ∧ SeqAt.shaped (.tuple ds) = true ∧ Q (.bl (ds.any fun z => PyData.eqv z d)) H)
def rNotInA (K : PySem.W.Frag) : R2 := fun x y H Q => rNotInD K x y H Q ∨ (∃ d ds, Dp K H x d ∧ Dp K H y (.tuple ds) ∧ SeqAt.shaped d = true ∧ SeqAt.shaped (.tuple ds) = true ∧ Q (.bl (!ds.any fun z => PyData.eqv z d)) H)
theorem op_inA (hu : X.A.units + 65 < cLine) : OpR X (compareOp .In) (rInA X.K) := (op_inD hu).or (op_inT hu)
theorem op_notInA (hu : X.A.units + 65 < cLine) : OpR X (compareOp .NotIn) (rNotInA X.K) := (op_notInD hu).or (op_notInT hu)
theorem isin_pd (d : D) : ∀ ys : List D, (D.pdL ys).any (fun z => PyData.eqv z d.pd) = isin d ys
  | [] => rfl
  | y :: ys => by
    unfold D.pdL isin
    rw [List.any_cons, List.any_cons, isin_pd d ys]
    rfl
theorem shapedL_of {ys : List D} (p : D.pureL flatN ys = true) : SeqAt.shaped (.list (D.pdL ys)) = true ∧ SeqAt.shaped (.tuple (D.pdL ys)) = true := by
  have q := pureL_lay p
  unfold SeqAt.shaped
  refine ⟨?_, ?_⟩
  all_goals
    rw [show (PyData.canLay0 _) = true by simpa [PyData.canLay0] using q.1, Bool.true_and]
    refine decide_eq_true ?_
    have h2 := q.2
    unfold flatN at h2
    simp only [PyData.depth]
    omega
theorem k_in (n2 : noObj (view M dy) = true) (n1 : noObj (view M dx) = true) (m : RepM T ω M H) (rx : RepD T ω dx x) (ry : RepD T ω dy y) (h : RP T W σ (RepD T) ω (cmpE E .inn dx dy M) (fun _ _ _ H' v => Q v H')) : rInA T.K x y H Q := by
  rw [cmpE_plain n1 n2] at h
  simp only [cmpop] at h
  cases ey : view M dy with
  | tup ys =>
    simp only [ey] at h
    obtain ⟨b, vs, rfl, h1, h2⟩ := m.tup ry ey
    by_cases c : (dx.pure flatN && D.pureL flatN ys) = true
    · rw [if_pos c] at h
      have c' := Bool.and_eq_true_iff.mp c
      exact .inr ⟨_, _, dp_of m.F rx c'.1, .tup h1 (dps_of m.F h2 c'.2), shaped_of (by decide) c'.1, (shapedL_of c'.2).2, by rw [isin_pd]; exact h ω H _ (Le.refl _) m (.bl _)⟩
    · rw [if_neg c] at h
      exact h.elim
  | lst ys =>
    simp only [ey] at h
    obtain ⟨b, vs, rfl, h1, h2⟩ := m.lst ry ey
    by_cases c : (dx.pure flatN && D.pureL flatN ys) = true
    · rw [if_pos c] at h
      have c' := Bool.and_eq_true_iff.mp c
      exact .inl ⟨_, _, dp_of m.F rx c'.1, .lst h1 (dps_of m.F h2 c'.2), shaped_of (by decide) c'.1, (shapedL_of c'.2).1, by rw [isin_pd]; exact h ω H _ (Le.refl _) m (.bl _)⟩
    · rw [if_neg c] at h
      exact h.elim
  | _ => simp only [ey] at h; exact h.elim
theorem k_notIn (n2 : noObj (view M dy) = true) (n1 : noObj (view M dx) = true) (m : RepM T ω M H) (rx : RepD T ω dx x) (ry : RepD T ω dy y) (h : RP T W σ (RepD T) ω (cmpE E .notIn dx dy M) (fun _ _ _ H' v => Q v H')) : rNotInA T.K x y H Q := by
  rw [cmpE_plain n1 n2] at h
  simp only [cmpop] at h
  cases ey : view M dy with
  | tup ys =>
    simp only [ey] at h
    obtain ⟨b, vs, rfl, h1, h2⟩ := m.tup ry ey
    by_cases c : (dx.pure flatN && D.pureL flatN ys) = true
    · rw [if_pos c] at h
      have c' := Bool.and_eq_true_iff.mp c
      exact .inr ⟨_, _, dp_of m.F rx c'.1, .tup h1 (dps_of m.F h2 c'.2), shaped_of (by decide) c'.1, (shapedL_of c'.2).2, by rw [isin_pd]; exact h ω H _ (Le.refl _) m (.bl _)⟩
    · rw [if_neg c] at h
      exact h.elim
  | lst ys =>
    simp only [ey] at h
    obtain ⟨b, vs, rfl, h1, h2⟩ := m.lst ry ey
    by_cases c : (dx.pure flatN && D.pureL flatN ys) = true
    · rw [if_pos c] at h
      have c' := Bool.and_eq_true_iff.mp c
      exact .inl ⟨_, _, dp_of m.F rx c'.1, .lst h1 (dps_of m.F h2 c'.2), shaped_of (by decide) c'.1, (shapedL_of c'.2).1, by rw [isin_pd]; exact h ω H _ (Le.refl _) m (.bl _)⟩
    · rw [if_neg c] at h
      exact h.elim
  | _ => simp only [ey] at h; exact h.elim

/-! ### built-in functions -/
/-- a function's rule and its case, arguments by values -/
def FnK (T : Tx) (W : WX) (E : Fe) (f : BF) (own : Bool) (r : List V → Hp → VK → Prop) : Prop :=
  ∀ σ Q ω M (ds : List D) (vs : List V) H, RepM T ω M H → RepL T ω ds vs → RP T W σ (RepD T) ω (bfD E f own ds M) (fun _ _ _ H' v => Q v H') → r vs H Q
theorem rep1 {ds : List D} {vs : List V} {d : D} (r : RepL T ω ds vs) (e : ds = [d]) : ∃ v, vs = [v] ∧ RepD T ω d v := by
  subst e
  cases r with
  | cons r t => cases t; exact ⟨_, rfl, r⟩
/-- the argument, where it is one -/
theorem fk_one {f : BF} {own : Bool} {r : List V → Hp → VK → Prop} (hb : ∀ ds M, (∀ d, ds ≠ [d]) → bfD E f own ds M = .bad)
    (h : ∀ σ Q ω M (d : D) (v : V) H, RepM T ω M H → RepD T ω d v → RP T W σ (RepD T) ω (bfD E f own [d] M) (fun _ _ _ H' v => Q v H') → r [v] H Q) : FnK T W E f own r := by
  intro σ Q ω M ds vs H m q k
  by_cases c : ∃ d, ds = [d]
  · obtain ⟨d, rfl⟩ := c
    obtain ⟨v, rfl, rv⟩ := rep1 q rfl
    exact h σ Q ω M d v H m rv k
  · rw [hb ds M fun d e => c ⟨d, e⟩] at k
    exact k.elim
/-- len of what is no instance -/
def FnKp (T : Tx) (W : WX) (f : BF) (own : Bool) (r : List V → Hp → VK → Prop) : Prop :=
  ∀ σ Q ω M (ds : List D) (vs : List V) H, RepM T ω M H → RepL T ω ds vs → RP T W σ (RepD T) ω (bfun f own ds M) (fun _ _ _ H' v => Q v H') → r vs H Q
theorem fk_len {own : Bool} : FnKp T W .len own (fun xs H Q => ∃ x n, xs = [x] ∧ LenV T.K x H n ∧ Q (.int n) H) := by
  intro σ Q ω M ds vs H m r h
  cases ds with
  | nil => exact h.elim
  | cons d ds =>
    cases ds with
    | cons _ _ => exact h.elim
    | nil =>
      obtain ⟨v, rfl, rv⟩ := rep1 r rfl
      simp only [bfun] at h
      cases ex : view M d with
      | tup xs =>
        simp only [ex] at h
        obtain ⟨a, ws, rfl, h1, h2⟩ := m.tup rv ex
        rw [h2.length] at h
        exact ⟨_, ws.length, rfl, .inr ⟨ws, h1, rfl⟩, h ω H _ (Le.refl _) m (.int _)⟩
      | lst xs =>
        simp only [ex] at h
        obtain ⟨a, ws, rfl, h1, h2⟩ := m.lst rv ex
        rw [h2.length] at h
        exact ⟨_, ws.length, rfl, .inl ⟨ws, h1, rfl⟩, h ω H _ (Le.refl _) m (.int _)⟩
      | str s =>
        simp only [ex] at h
        obtain rfl := view_str ex
        by_cases c : s.length ≤ line
        · rw [if_pos c] at h
          exact ⟨_, s.length, rfl, by rw [rv.str_inv]; exact ⟨c, rfl⟩, h ω H _ (Le.refl _) m (.int _)⟩
        · rw [if_neg c] at h
          exact h.elim
      | _ => simp only [ex] at h; exact h.elim
end
end Lc
end

section
set_option autoImplicit false
set_option linter.all false
set_option Elab.async false
set_option maxRecDepth 100000
/-! Lc: sorting of data, tuples without items too; lists, tuples. -/
namespace PySem.SeqAt
open PySem PyProof.Rows Sem
theorem lc_tuple_lt {A : Around} {s : Shared} {prog : Program} {w : World} {E : Value → Shared → Prop} {Q : Value → Shared → Prop} {l b : Addr} {items items2 : Array Value} {e r : Nat → Bool} (hl : s.heap.IsTuple l items) (hb : s.heap.IsTuple b items2)
    (he : ∀ j (h1 : j < items.size) (h2 : j < items2.size), EqAt A.in1 s items[j] items2[j] (e j)) (hr : ∀ j (h1 : j < items.size) (h2 : j < items2.size), e j = false → RcLt A.in1 s items[j] items2[j] (r j))
    (h : Q (.bool (firstLt e r (decide (items.size < items2.size)) (List.range (min items.size items2.size)))) s) : wpAny (model prog w) A (call (.builtin "tuple.__lt__") [.ref l, .ref b]) Q E s := by
  obtain ⟨⟨cls, dd, data, sl⟩, ho, hc, n, hd⟩ := id hl
  obtain ⟨⟨cls2, dd2, data2, sl2⟩, ho2, hc2, n2, hd2⟩ := id hb
  simp only at hc hd hc2 hd2
  subst hc hd hc2 hd2
  exact call_meets F.slot_tuple_lt ⟨_, ho, rfl⟩ F.entry_tuple_lt (F.args_tuple_lt_2 _ _) (tuple_ltAt l b items items2 n n2 dd dd2 sl sl2 e r) ⟨ho, ho2, he, hr, h⟩
end PySem.SeqAt
namespace PySem.W
open PySem PySem.SeqAt PyProof.Rows
section
variable {prog : Program} {w : World} {A : Around} {E : Value → Shared → Prop} {s : Shared}
/-- one key against another, tuples too -/
theorem lc_oneLt {f : Bool} {da db : PyData} {a b : Value} {as bs : List Addr} {Q : Bool → Shared → Prop} (ra : Reads s.heap a da as) (rb : Reads s.heap b db bs) (h : alike da db = true) (hn : da ≠ .none)
    (hu : A.units + min da.depth db.depth < cLine) (hq : Q (dataLt da db) s) : wpAny (model prog w) A (oneLt' f a b) Q E s := by
  by_cases ht : f = true ∧ ∃ xs, da = .tuple xs
  · obtain ⟨rfl, xs, rfl⟩ := ht
    cases db with
    | tuple ys =>
      have hal : alikeAll xs ys = true := by simpa [alike] using h
      cases ra with
      | @tuple l o vs n _ as₁ h1 h2 h3 h4 =>
        cases rb with
        | @tuple l' o' vs' n' _ bs₁ k1 k2 k3 k4 =>
          have n1 : vs.size = xs.length := by simpa using ReadsAll.length _ _ _ h4
          have n2 : vs'.size = ys.length := by simpa using ReadsAll.length _ _ _ k4
          rw [dataLt_tuple] at hq
          have hq2 : Q (firstLt (pairEq xs ys) (fun j => dataLt (xs.getD j .none) (ys.getD j .none)) (decide (vs.size < vs'.size)) (List.range (min vs.size vs'.size))) s := by
            rw [n1, n2, firstLt_toks xs ys hal]
            exact hq
          rw [oneLt'_eq]
          simp only [if_true]
          refine wpAny_bind (wpAny_cRoomFor (room_here hu) ?_)
          refine wpAny_bind (wpAny_callSpecialIfBound?_slot (T := "tuple") ⟨_, h1, h2⟩ F.slot_tuple_lt (lc_tuple_lt (e := pairEq xs ys) (r := fun j => dataLt (xs.getD j .none) (ys.getD j .none)) ⟨_, h1, h2, _, h3⟩ ⟨_, k1, k2, _, k3⟩ (fun j j1 j2 => ?_) (fun j j1 j2 hj => ?_) ?_))
          · have := eqAt_alikeAll xs ys A.in1 s vs.toList vs'.toList _ _ h4 k4 hal (room_in hu) j (by simpa using j1) (by simpa using j2)
            simpa using this
          · have := rcLt_alikeAll xs ys A.in1 s vs.toList vs'.toList _ _ h4 k4 hal (room_in hu) j (by simpa using j1) (by simpa using j2) hj
            simpa using this
          · exact wpAny_truthy_bool hq2
    | _ => exact absurd h (by simp [alike])
  · exact oneLt_alike (fun e xs z => ht ⟨e, xs, z⟩) ra rb h hn hu hq

/-- the kind of keys, tuples of which one at least is empty -/
theorem lc_firsts {M : Model} : ∀ (vs : List Value) (ds : List PyData) {Q : List (Option Value) → Shared → Prop}, EachIs (fun v d => ∃ as, Reads s.heap v d as) vs ds → (∀ d ∈ ds, ∃ xs, d = .tuple xs) →
    (∀ fs : List (Option Value), fs.map Option.isSome = ds.map (fun d => match d with | .tuple (_ :: _) => true | _ => false) → Q fs s) → wpAny M A (vs.mapM firstOfTuple') Q E s
  | [], [], _, _, _, h => by rw [List.mapM_nil]; exact wpAny_pure (h [] rfl)
  | v :: vs, d :: ds, Q, .cons ⟨as, r⟩ t, ht, h => by
    obtain ⟨xs, rfl⟩ := ht d List.mem_cons_self
    cases r with
    | @tuple l o its n _ as₁ h1 h2 h3 h4 =>
      rw [List.mapM_cons]
      refine wpAny_bind ?_
      rw [kas_first_eq]
      refine wpAny_bind (Looks.here (show Looks M s.heap (typeOf (.ref l)) o.cls from (Looks.ld h1).andThen .now) ?_)
      rw [h2, if_neg (by first | decide | simp)]
      refine wpAny_bind (listItems_at h1 h3 (wpAny_pure ?_))
      refine wpAny_bind (lc_firsts vs ds t (fun d hd => ht d (List.mem_cons_of_mem _ hd)) fun fs hfs => ?_)
      refine wpAny_pure (h _ ?_)
      rw [List.map_cons, List.map_cons, hfs]
      congr 1
      cases xs with
      | nil =>
        have : its.size = 0 := by simpa using ReadsAll.length _ _ _ h4
        have e : its[0]? = none := by simp [this]
        rw [e]
        rfl
      | cons x xs =>
        have hs : its.size = xs.length + 1 := by simpa using ReadsAll.length _ _ _ h4
        have e : ∃ y, its[0]? = some y := ⟨its[0]'(by omega), by rw [getElem?_pos]⟩
        obtain ⟨y, e⟩ := e
        rw [e]
        rfl
theorem lc_kind {M : Model} {vs : List Value} {ds : List PyData} {Q : SortKind → Shared → Prop} (e : EachIs (fun v d => ∃ as, Reads s.heap v d as) vs ds) (ht : ∀ d ∈ ds, ∃ xs, d = .tuple xs) (he : PyData.tuple [] ∈ ds)
    (h1 : Q general' s) (h2 : Q oneType' s) : wpAny M A (keyKind' vs.toArray) Q E s := by
  rw [kat_kind_eq, List.mapM_toArray, map_eq_pure_bind]
  refine wpAny_bind (wpAny_bind (lc_firsts vs ds e ht fun fs hfs => wpAny_pure ?_))
  have hall : ¬ ((fs.toArray.all fun x => x.isSome) = true) := by
    intro z
    rw [List.all_toArray, List.all_eq_true] at z
    have : ∀ b ∈ fs.map Option.isSome, b = true := fun b hb => by
      obtain ⟨f, hf, rfl⟩ := List.mem_map.mp hb
      exact z f hf
    rw [hfs] at this
    have q := this _ (List.mem_map.mpr ⟨_, he, rfl⟩)
    cases q
  rw [if_neg hall]
  split
  · exact wpAny_pure h1
  · rw [oneTypeOnly'_eq, List.mapM_toArray, map_eq_pure_bind]
    refine wpAny_bind (wpAny_bind (wpAny_bind (kas_mapM (r := Value.type "tuple") _ (fun v hv Q' hq => ?_) (wpAny_pure ?_))))
    · obtain ⟨d, hd, as, r⟩ := e.left v hv
      obtain ⟨xs, rfl⟩ := ht d hd
      exact (looks_reads r).here hq
    · have hall2 : ((List.map (fun _ => Value.type "tuple") vs).toArray.all fun x => x == Value.type "tuple") = true := by
        simp only [List.all_toArray, List.all_map, List.all_eq_true]
        intro x _
        exact beq_self_eq_true _
      cases vs with
      | nil =>
        cases e
        cases he
      | cons v vs =>
        simp only [List.map_cons, List.getElem?_toArray, List.getElem?_cons_zero]
        rw [List.map_cons] at hall2
        rw [if_pos hall2]
        refine wpAny_pure (wpAny_pure ?_)
        exact h2
/-- values that read as alike data can be sorted: as SortsAt.data, with empty tuples -/
theorem lc_sortsAt {vs : List Value} {ds : List PyData} (e : EachIs (fun v d => ∃ as, Reads s.heap v d as) vs ds) (hal : AllAlike ds) (hk : Sortable ds ∨ (PyData.tuple [] ∈ ds ∧ ∀ d ∈ ds, ∃ xs, d = .tuple xs)) (hu : ∀ d, d ∈ ds → A.units + d.depth < cLine) :
    SortsAt prog w A s (dataKind s.heap ds) vs := by
  rcases hk with hk | ⟨he, ht⟩
  · exact SortsAt.data e hal hk hu
  have room : ∀ {d d' : PyData}, d ∈ ds → A.units + min d.depth d'.depth < cLine := fun {d d'} hd => Nat.lt_of_le_of_lt (Nat.add_le_add_left (Nat.min_le_left _ _) _) (hu d hd)
  have key : ∀ v, v ∈ vs → ∃ a, (dataKind s.heap ds).keyOf v = some a := fun v hv => by
    obtain ⟨d, hd, as, r⟩ := e.left v hv
    exact ⟨_, dataKind_some hal hd r⟩
  have lt : ∀ (f : Bool) (kd : SortKind), (∀ x y, keyLt' kd x y = oneLt' f x y) → H.LtAt prog w A s (dataKind s.heap ds) kd := by
    intro f kd hkd E x y a b Q ha hb hq
    obtain ⟨d, as, hd, ra, rfl⟩ := dataKind_inv ha
    obtain ⟨d', as', hd', rb, rfl⟩ := dataKind_inv hb
    rw [hkd]
    refine lc_oneLt ra rb (hal d hd d' hd') ?_ (room hd) hq
    obtain ⟨xs, rfl⟩ := ht d hd
    intro z
    cases z
  -- the first key tells the kind
  by_cases h0 : ∃ x r rest, ds = .tuple (x :: r) :: rest
  · refine ⟨key, general', lt false general' fun _ _ => rfl, fun _ E Q hq => ?_⟩
    obtain ⟨x, r, rest, rfl⟩ := h0
    rw [kat_kind_eq, List.mapM_toArray, map_eq_pure_bind]
    refine wpAny_bind (wpAny_bind (lc_firsts vs _ e ht fun fs hfs => wpAny_pure ?_))
    have hall : ¬ ((fs.toArray.all fun x => x.isSome) = true) := by
      intro z
      rw [List.all_toArray, List.all_eq_true] at z
      have : ∀ b ∈ fs.map Option.isSome, b = true := fun b hb => by
        obtain ⟨f, hf, rfl⟩ := List.mem_map.mp hb
        exact z f hf
      rw [hfs] at this
      have q := this _ (List.mem_map.mpr ⟨_, he, rfl⟩)
      cases q
    rw [if_neg hall]
    have hf0 : ((fs.toArray[0]?).bind id).isSome = true := by
      cases fs with
      | nil => simp at hfs
      | cons f fs =>
        rw [List.map_cons, List.map_cons] at hfs
        have q := (List.cons.inj hfs).1
        simpa using q
    rw [if_pos hf0]
    exact wpAny_pure hq
  · refine ⟨key, oneType', lt true oneType' fun _ _ => rfl, fun _ E Q hq => ?_⟩
    rw [kat_kind_eq, List.mapM_toArray, map_eq_pure_bind]
    refine wpAny_bind (wpAny_bind (lc_firsts vs _ e ht fun fs hfs => wpAny_pure ?_))
    have hall : ¬ ((fs.toArray.all fun x => x.isSome) = true) := by
      intro z
      rw [List.all_toArray, List.all_eq_true] at z
      have : ∀ b ∈ fs.map Option.isSome, b = true := fun b hb => by
        obtain ⟨f, hf, rfl⟩ := List.mem_map.mp hb
        exact z f hf
      rw [hfs] at this
      have q := this _ (List.mem_map.mpr ⟨_, he, rfl⟩)
      cases q
    rw [if_neg hall]
    have hf0 : ¬ ((fs.toArray[0]?).bind id).isSome = true := by
      intro z
      cases fs with
      | nil => simp at z
      | cons f fs =>
        cases ds with
        | nil => simp at hfs
        | cons d ds =>
          obtain ⟨xs, rfl⟩ := ht d List.mem_cons_self
          rw [List.map_cons, List.map_cons] at hfs
          have q := (List.cons.inj hfs).1
          have z' : f.isSome = true := by simpa using z
          rw [z'] at q
          cases xs with
          | nil => cases q
          | cons x r => exact h0 ⟨x, r, ds, rfl⟩
    rw [if_neg hf0]
    rw [oneTypeOnly'_eq, List.mapM_toArray, map_eq_pure_bind]
    refine wpAny_bind (wpAny_bind (wpAny_bind (kas_mapM (r := Value.type "tuple") _ (fun v hv Q' hq => ?_) (wpAny_pure ?_))))
    · obtain ⟨d, hd, as, r⟩ := e.left v hv
      obtain ⟨xs, rfl⟩ := ht d hd
      exact (looks_reads r).here hq
    · have hall2 : ((List.map (fun _ => Value.type "tuple") vs).toArray.all fun x => x == Value.type "tuple") = true := by
        simp only [List.all_toArray, List.all_map, List.all_eq_true]
        intro x _
        exact beq_self_eq_true _
      cases vs with
      | nil =>
        cases e
        cases he
      | cons v vs =>
        simp only [List.map_cons, List.getElem?_toArray, List.getElem?_cons_zero]
        rw [List.map_cons] at hall2
        rw [if_pos hall2]
        exact wpAny_pure (wpAny_pure hq)

/-- sorted(v): v gives the items vs -/
theorem lc_sorted {v : Value} {vs : List Value} {ds : List PyData} {Q : Value → Shared → Prop} (e : EachIs (fun v d => ∃ as, Reads s.heap v d as) vs ds)
    (hcol : ∀ (E' : Value → Shared → Prop) (Q' : List Value → Shared → Prop), (∀ h', (∀ b o, s.heap.get? b = some o → h'.get? b = some o) → Q' vs { s with heap := h' }) → wpAny (model prog w) A.in1 (collect v) Q' E' s)
    (hal : AllAlike ds) (hk : Sortable ds ∨ (PyData.tuple [] ∈ ds ∧ ∀ d ∈ ds, ∃ xs, d = .tuple xs)) (hu : ∀ d, d ∈ ds → A.units + 2 + d.depth < cLine) (hL : vs.length ≤ sizeLine)
    (h : ∀ (h1 h' hs : Heap) (n : Nat), (∀ b o, s.heap.get? b = some o → h1.get? b = some o) → (∀ b o, h1.get? b = some o → h'.get? b = some o) → (∀ b o, s.heap.get? b = some o → hs.get? b = some o) →
      h'.get? h1.objs.size = some { cls := .type "list", data := .seq (sortVals (dataKind hs ds) false vs vs).toArray n } → Q (.ref h1.objs.size) { s with heap := h' }) :
    wpAny (model prog w) A (call (.builtin "sorted") [v]) Q E s := by
  refine call_function_entry_kw kind_sorted plain_sorted entry_sorted (args_sorted1 _) ?_
  unfold Builtin.«sorted»
  refine wpAny_bind (m := checkCount "sorted" 1 1 _) (wpAny_pure ?_)
  refine wpAny_bind (hcol _ _ fun h1 k1 => ?_)
  refine wpAny_bind (wpAny_newList ?_ hL)
  have hat : (h1.push (seqObj "list" vs.toArray 0)).get? h1.objs.size = some (seqObj "list" vs.toArray 0) := Heap.get?_push_size _ rfl
  have hlt : ∀ b o, s.heap.get? b = some o → b < h1.objs.size := fun b o q => Heap.lt_size (k1 b o q)
  have k2 : ∀ b o, s.heap.get? b = some o → (h1.push (seqObj "list" vs.toArray 0)).get? b = some o := fun b o q => Heap.get?_push_of_some _ (k1 b o q)
  have k3 : ∀ b o, s.heap.get? b = some o → (sortingHeap (h1.push (seqObj "list" vs.toArray 0)) h1.objs.size vs).get? b = some o := fun b o q => sortingHeap_old (Nat.ne_of_lt (hlt b o q)) (k2 b o q)
  have e2 : EachIs (fun v d => ∃ as, Reads (sortingHeap (h1.push (seqObj "list" vs.toArray 0)) h1.objs.size vs) v d as) vs ds := e.mono fun _ _ ⟨as, r⟩ => ⟨as, PyProof.Rows.Reads.keeps k3 r⟩
  show wpAny _ _ _ _ _ { s with heap := h1.push (seqObj "list" vs.toArray 0) }
  refine wpAny_bind (wpAny_holding (wpAny_call_entry_kw slot_list_sort ⟨_, hat, rfl⟩ entry_list_sort ?body (args_list_sort _)))
  case body =>
    show wpAny (model prog w) A.in1.in1 (Builtin.«list.sort» ⟨[.ref h1.objs.size], []⟩) _ _ _
    refine list_sort_vals (κ := dataKind (sortingHeap (h1.push (seqObj "list" vs.toArray 0)) h1.objs.size vs) ds) (s := { s with heap := h1.push (seqObj "list" vs.toArray 0) }) hat
      (lc_sortsAt (s := { s with heap := sortingHeap (h1.push (seqObj "list" vs.toArray 0)) h1.objs.size vs }) e2 hal hk fun d hd => hu d hd) hL ⟨_, rfl, wpAny_pure ⟨_, rfl, ?_⟩⟩
    obtain ⟨n, hn⟩ := sortedHeap_at (n := 0) (out := (sortVals (dataKind (sortingHeap (h1.push (seqObj "list" vs.toArray 0)) h1.objs.size vs) ds) false vs vs).toArray) hat
    refine h h1 _ _ n k1 (fun b o q => ?_) k3 hn
    rw [sortedHeap_old (Nat.ne_of_lt (Heap.lt_size q)) (by rw [size_push']; exact Nat.lt_succ_of_lt (Heap.lt_size q))]
    exact Heap.get?_push_of_some _ q
end
end PySem.W
namespace Lc
open PySem L2 PySem.Spec PyProof.Rows
/-! ### sorted(x) over the layer -/
def pnone : PyData → Bool
  | .none => true | _ => false
def rSortD (K : PySem.W.Frag) : List V → Hp → VK → Prop := fun xs H Q => ∃ (a : Addr) (ps : List (PyData × V)), xs = [.ref a] ∧ (SqL K H a (ps.map (·.2)) ∨ SqT K H a (ps.map (·.2))) ∧ (∀ p ∈ ps, Dp K H p.2 p.1) ∧
  PySem.W.AllAlike (ps.map (·.1)) ∧ (∀ p ∈ ps, pnone p.1 = false) ∧ (∀ p ∈ ps, p.1.depth ≤ 64) ∧ ∀ p, H p = none → Q (.ref p) (upd H p (.lst ((ps.mergeSort (PySem.W.dataLe false (·.1))).map (·.2))))
theorem sortable_of {ds : List PyData} (hal : PySem.W.AllAlike ds) (hn : ∀ d ∈ ds, pnone d = false) : PySem.W.Sortable ds ∨ (PyData.tuple [] ∈ ds ∧ ∀ d ∈ ds, ∃ xs, d = .tuple xs) := by
  by_cases h : ∃ d ∈ ds, ∃ xs, d = .tuple xs
  · obtain ⟨d, hd, xs, rfl⟩ := h
    have all : ∀ e ∈ ds, ∃ ys, e = .tuple ys := fun e he => by
      have q := hal _ hd e he
      cases e with
      | tuple ys => exact ⟨ys, rfl⟩
      | _ => simp [PySem.W.alike] at q
    by_cases he : PyData.tuple [] ∈ ds
    · exact .inr ⟨he, all⟩
    · refine .inl (.inl fun e hm => ?_)
      obtain ⟨ys, rfl⟩ := all e hm
      cases ys with
      | nil => exact absurd hm he
      | cons y r => exact ⟨y, r, rfl⟩
  · refine .inl (.inr fun d hd => ⟨fun z => ?_, fun xs z => h ⟨d, hd, xs, z⟩⟩)
    have q := hn d hd
    rw [z] at q
    cases q
theorem vals_each {X : Cx} {pins : List (Addr × Obj)} {σ : L2.St} {H : Hp} {s : Shared} (I : L2.Inv X pins σ H s) : ∀ (ps : List (PyData × V)) {its : List Value}, Vals (ps.map (·.2)) its → (∀ p ∈ ps, Dp X.K H p.2 p.1) →
    PySem.W.EachIs (fun (u : Value) (p : PyData × V) => RelV p.2 u) its ps ∧ PySem.W.EachIs (fun u (p : PyData × V) => ∃ as, Reads s.heap u p.1 as) its ps
  | [], _, r, _ => by cases r; exact ⟨.nil, .nil⟩
  | p :: ps, _, r, h => by
    cases r with
    | cons r t =>
      obtain ⟨h1, h2⟩ := vals_each I ps t fun q hq => h q (List.mem_cons_of_mem _ hq)
      exact ⟨.cons r h1, .cons (Dp.reads I _ _ _ (h p List.mem_cons_self) r) h2⟩
theorem each_vals : ∀ {ps : List (PyData × V)} {its : List Value}, PySem.W.EachIs (fun (u : Value) (p : PyData × V) => RelV p.2 u) its ps → Vals (ps.map (·.2)) its
  | _, _, .nil => .nil
  | _, _, .cons r t => .cons r (each_vals t)
theorem cr_sortD {X : Cx} (hu : X.A.units + 200 < cLine) : CallR X (.builtin "sorted") (rSortD X.K) := by
  intro pins s σ H xs us Q I r h
  obtain ⟨a, ps, rfl, hs, hd, hal, hn, hdep, q⟩ := h
  obtain ⟨u, rfl, ru⟩ := vals1 r
  cases ru
  obtain ⟨its, rv, T, o, n, hT, ho, hc, hdt, hz⟩ : ∃ (its : List Value) , Vals (ps.map (·.2)) its ∧ ∃ (T : String) (o : Obj) (n : Nat), (T = "list" ∨ T = "tuple") ∧ s.heap.get? a = some o ∧ o.cls = .type T ∧ o.data = .seq its.toArray n ∧ its.length ≤ sizeLine := by
    rcases hs with hs | hs
    · obtain ⟨its, rv, ⟨o, n, h1, h2, h3, h4⟩, hz⟩ := I.list hs
      exact ⟨its, rv, "list", o, n, .inl rfl, h1, h2, h4, by rw [← rv.length]; exact hz⟩
    · obtain ⟨its, rv, ⟨o, h1, h2, n, h4⟩, hz⟩ := I.tuple hs
      exact ⟨its, rv, "tuple", o, n, .inr rfl, h1, h2, h4, by rw [← rv.length]; exact hz⟩
  obtain ⟨e1, e2⟩ := vals_each I ps rv hd
  refine PySem.W.lc_sorted (ds := ps.map (·.1)) (PySem.W.each_map (R := fun v d => ∃ as, Reads s.heap v d as) (fun p : PyData × V => p.1) e2) (fun E' Q' hq => ?_) hal (sortable_of hal fun d hd => ?_) (fun d hd => ?_) hz fun h1 h' hs n k1 k2 k3 hat => ?_
  · refine wpAny_collect_seq a hT ho hc hdt (fun h' k => ?_) (by rw [List.size_toArray]; exact hz)
    exact hq h' k
  · obtain ⟨p, hp, rfl⟩ := List.mem_map.mp hd
    exact hn p hp
  · obtain ⟨p, hp, rfl⟩ := List.mem_map.mp hd
    have := hdep p hp
    omega
  · have I1 : Inv X pins σ H { s with heap := h1 } := I.kept (t' := s.toks) k1
    have er : PySem.W.EachIs (fun u (p : PyData × V) => ∃ as, Reads hs u p.1 as) its ps := e2.mono fun _ _ ⟨as, r⟩ => ⟨as, PyProof.Rows.Reads.keeps k3 r⟩
    have eo := each_vals (PySem.W.sortVals_data (h' := hs) (enc := fun p : PyData × V => p.1) false e1 er hal)
    have hl : ((ps.mergeSort (PySem.W.dataLe false (fun p : PyData × V => p.1))).map (·.2)).length ≤ sizeLine := by
      have := rv.length
      rw [List.length_map] at this
      rw [List.length_map, List.length_mergeSort, this]
      exact hz
    refine ⟨.ref h1.objs.size, _, I1.laid (t' := s.toks) (o := .lst ((ps.mergeSort (PySem.W.dataLe false (·.1))).map (·.2))) k2 (Nat.le_refl _) ⟨hl, _, n, eo, hat⟩, rfl, q _ (I1.hok.fresh (Nat.le_refl _))⟩
section
variable {T : Tx} {W : WX} {E : Fe} {X : Cx} {σ : L2.St} {ω : Wd} {M : Store} {H : Hp} {Q : VK} {own : Bool}
theorem alike_all {xs : List D} (h : allAlike xs = true) : ∀ x ∈ xs, ∀ y ∈ xs, alike x y = true := fun x hx y hy => List.all_eq_true.mp (List.all_eq_true.mp h x hx) y hy
theorem RepL.zip : ∀ {xs : List D} {vs : List V}, RepL T ω xs vs → ∀ p ∈ xs.zip vs, RepD T ω p.1 p.2
  | _, _, .nil, p, h => by simp at h
  | _, _, .cons r t, p, h => by
    rw [List.zip_cons_cons] at h
    rcases List.mem_cons.mp h with rfl | h
    · exact r
    · exact t.zip p h
theorem repL_of_zip : ∀ {ps : List (D × V)}, (∀ p ∈ ps, RepD T ω p.1 p.2) → RepL T ω (ps.map (·.1)) (ps.map (·.2))
  | [], _ => .nil
  | p :: ps, h => .cons (h p List.mem_cons_self) (repL_of_zip fun q hq => h q (List.mem_cons_of_mem _ hq))
theorem pureL_mem {n : Nat} : ∀ {xs : List D}, D.pureL n xs = true → ∀ x ∈ xs, x.pure n = true
  | [], _, _, h => by simp at h
  | y :: ys, p, x, h => by
    have p' := Bool.and_eq_true_iff.mp (by simpa only [D.pureL] using p)
    rcases List.mem_cons.mp h with rfl | h
    · exact p'.1
    · exact pureL_mem p'.2 x h
theorem sort_pairs {xs : List D} {vs : List V} (hl : xs.length = vs.length) :
    ((xs.zip vs).mergeSort (fun p q : D × V => dle p.1 q.1)).map (·.1) = xs.mergeSort dle ∧
    (((xs.zip vs).map fun p : D × V => (p.1.pd, p.2)).mergeSort (PySem.W.dataLe false (fun p : PyData × V => p.1))).map (·.2) = ((xs.zip vs).mergeSort (fun p q : D × V => dle p.1 q.1)).map (·.2) := by
  constructor
  · rw [List.map_mergeSort (s := dle) (f := fun p : D × V => p.1) (fun a _ b _ => rfl)]
    rw [List.map_fst_zip (Nat.le_of_eq hl)]
  · rw [← List.map_mergeSort (r := fun p q : D × V => dle p.1 q.1) (s := PySem.W.dataLe false (fun p : PyData × V => p.1)) (f := fun p : D × V => (p.1.pd, p.2)) (fun a _ b _ => rfl)]
    rw [List.map_map]
    rfl
theorem pd_none {d : D} {n : Nat} (p : d.pure n = true) (h : ndNone d = false) : pnone d.pd = false := by
  cases d with
  | non => cases h
  | bl _ => rfl
  | int _ => rfl
  | str _ => rfl
  | tup _ => unfold D.pd; rfl
  | lst _ => unfold D.pd; rfl
  | dic _ _ => simp [D.pure] at p
  | obj _ _ _ => simp [D.pure] at p
  | cls _ => simp [D.pure] at p
  | loc _ => simp [D.pure] at p
theorem k_sort {a : Addr} {xs : List D} {vs : List V} (m : RepM T ω M H) (h1 : SqL T.K H a vs ∨ SqT T.K H a vs) (h2 : RepL T ω xs vs) (c : (D.pureL flatN xs && allAlike xs && xs.all (fun x => !ndNone x)) = true)
    (h : RP T W σ (RepD T) ω (newL own (xs.mergeSort dle) M) (fun _ _ _ H' v => Q v H')) : rSortD T.K [.ref a] H Q := by
  have c1 := Bool.and_eq_true_iff.mp c
  have c2 := Bool.and_eq_true_iff.mp c1.1
  have hl := h2.length
  have hz := h2.zip
  refine ⟨a, (xs.zip vs).map fun p : D × V => (p.1.pd, p.2), rfl, ?_, fun p hp => ?_, fun d hd e he => ?_, fun p hp => ?_, fun p hp => ?_, ?_⟩
  · rw [List.map_map, show ((fun x : PyData × V => x.2) ∘ fun p : D × V => (p.1.pd, p.2)) = (fun p : D × V => p.2) from rfl, List.map_snd_zip (Nat.le_of_eq hl.symm)]
    exact h1
  · obtain ⟨q, hq, rfl⟩ := List.mem_map.mp hp
    exact dp_of m.F (hz q hq) (pureL_mem c2.1 _ (List.of_mem_zip hq).1)
  · obtain ⟨p, hp, rfl⟩ := List.mem_map.mp hd
    obtain ⟨p', hp', rfl⟩ := List.mem_map.mp he
    obtain ⟨q, hq, rfl⟩ := List.mem_map.mp hp
    obtain ⟨q', hq', rfl⟩ := List.mem_map.mp hp'
    exact alike_all c2.2 _ (List.of_mem_zip hq).1 _ (List.of_mem_zip hq').1
  · obtain ⟨q, hq, rfl⟩ := List.mem_map.mp hp
    have z := List.all_eq_true.mp c1.2 _ (List.of_mem_zip hq).1
    exact pd_none (pureL_mem c2.1 _ (List.of_mem_zip hq).1) (by simpa using z)
  · obtain ⟨q, hq, rfl⟩ := List.mem_map.mp hp
    exact Nat.le_trans (pure_lay (pureL_mem c2.1 _ (List.of_mem_zip hq).1)).2 (by decide)
  · obtain ⟨e1, e2⟩ := sort_pairs (xs := xs) (vs := vs) hl
    have hr : RepL T ω (xs.mergeSort dle) ((((xs.zip vs).mergeSort (fun p q : D × V => dle p.1 q.1)).map (·.2))) := by
      rw [← e1]
      exact repL_of_zip fun p hp => hz p (List.mem_mergeSort.mp hp)
    have hp := (rp_newL m hr h).2
    rw [e2]
    exact hp
end
end Lc
end

section
set_option autoImplicit false
set_option linter.all false
set_option Elab.async false
set_option maxRecDepth 100000
/-! Lc: built-in functions. -/
namespace Lc
open PySem L2 PySem.Spec PyProof.Rows
section
variable {T : Tx} {W : WX} {E : Fe} {X : Cx} {pos : Pos} {e a b c : Expr} {ca cb cc : CE} {σ : L2.St} {ω : Wd} {M : Store} {H : Hp} {dx dy : D} {x y : V} {Q : VK} {own : Bool}
theorem bfD_plain {f : BF} {ds : List D} (h : f ≠ .len) (h1 : f ≠ .str) (h2 : f ≠ .repr) (h3 : f ≠ .bool) : bfD E f own ds M = bfun f own ds M := by
  cases f with
  | len => exact absurd rfl h
  | str => exact absurd rfl h1
  | repr => exact absurd rfl h2
  | bool => exact absurd rfl h3
  | _ => rfl
theorem fk_plain {f : BF} {r : List V → Hp → VK → Prop} (h : f ≠ .len) (h1 : f ≠ .str) (h2 : f ≠ .repr) (h3 : f ≠ .bool) (k : FnKp T W f own r) : FnK T W E f own r := fun σ Q ω M ds vs H m q z => by
  rw [bfD_plain h h1 h2 h3] at z
  exact k σ Q ω M ds vs H m q z
theorem fp_one {f : BF} {r : List V → Hp → VK → Prop} (hb : ∀ ds M, (∀ d, ds ≠ [d]) → bfun f own ds M = .bad)
    (h : ∀ σ Q ω M (d : D) (v : V) H, RepM T ω M H → RepD T ω d v → RP T W σ (RepD T) ω (bfun f own [d] M) (fun _ _ _ H' v => Q v H') → r [v] H Q) : FnKp T W f own r := by
  intro σ Q ω M ds vs H m q k
  by_cases c : ∃ d, ds = [d]
  · obtain ⟨d, rfl⟩ := c
    obtain ⟨v, rfl, rv⟩ := rep1 q rfl
    exact h σ Q ω M d v H m rv k
  · rw [hb ds M fun d e => c ⟨d, e⟩] at k
    exact k.elim
theorem not_one {ds : List D} {r : Res D} {f : D → Res D} (n : ∀ d, ds ≠ [d]) : (match ds with | [x] => f x | _ => Res.bad) = .bad := by
  cases ds with
  | nil => rfl
  | cons d ds => cases ds with
    | nil => exact absurd rfl (n d)
    | cons _ _ => rfl
theorem fp_sorted : FnKp T W .sorted own (rSortD T.K) := by
  refine fp_one (fun ds M n => ?_) fun σ Q ω M d v H m rv h => ?_
  · cases ds with
    | nil => rfl
    | cons d ds => cases ds with
      | nil => exact absurd rfl (n d)
      | cons _ _ => rfl
  · simp only [bfun] at h
    cases ex : view M d with
    | lst xs =>
      simp only [ex] at h
      obtain ⟨a, vs, rfl, h1, h2⟩ := m.lst rv ex
      by_cases c : (D.pureL flatN xs && allAlike xs && xs.all (fun x => !ndNone x)) = true
      · rw [if_pos c] at h
        exact k_sort m (.inl h1) h2 c h
      · rw [if_neg c] at h
        exact h.elim
    | tup xs =>
      simp only [ex] at h
      obtain ⟨a, vs, rfl, h1, h2⟩ := m.tup rv ex
      by_cases c : (D.pureL flatN xs && allAlike xs && xs.all (fun x => !ndNone x)) = true
      · rw [if_pos c] at h
        exact k_sort m (.inr h1) h2 c h
      · rw [if_neg c] at h
        exact h.elim
    | _ => simp only [ex] at h; exact h.elim
def rTupleA (K : PySem.W.Frag) : List V → Hp → VK → Prop := fun xs H Q => ∃ p ys, xs = [.ref p] ∧ ((SqL K H p ys ∧ ∀ l us n, H l = none → Q (.ref l) (upd H l (TF us n ys))) ∨ (SqT K H p ys ∧ Q (.ref p) H))
theorem fp_tuple : FnKp T W .tuple own (rTupleA T.K) := by
  refine fp_one (fun ds M n => ?_) fun σ Q ω M d v H m rv h => ?_
  · cases ds with
    | nil => rfl
    | cons d ds => cases ds with
      | nil => exact absurd rfl (n d)
      | cons _ _ => rfl
  · simp only [bfun, Lc.items] at h
    cases ex : view M d with
    | lst xs =>
      simp only [ex] at h
      obtain ⟨a, vs, rfl, h1, h2⟩ := m.lst rv ex
      obtain ⟨_, _, hp, _⟩ := rp_newT m h2 h
      exact ⟨a, vs, rfl, .inl ⟨h1, hp⟩⟩
    | tup xs =>
      simp only [ex] at h
      obtain ⟨a, vs, rfl, h1, h2⟩ := m.tup rv ex
      obtain ⟨_, _, _, hs⟩ := rp_newT m h2 h
      exact ⟨a, vs, rfl, .inr ⟨h1, hs _ (by rw [← view_tup ex]; exact rv)⟩⟩
    | _ => simp only [ex] at h; exact h.elim
def rListA (K : PySem.W.Frag) : List V → Hp → VK → Prop := fun xs H Q => ∃ p ys, xs = [.ref p] ∧ (SqL K H p ys ∨ SqT K H p ys) ∧ ∀ l, H l = none → Q (.ref l) (upd H l (.lst ys))
theorem fp_list : FnKp T W .list own (rListA T.K) := by
  refine fp_one (fun ds M n => ?_) fun σ Q ω M d v H m rv h => ?_
  · cases ds with
    | nil => rfl
    | cons d ds => cases ds with
      | nil => exact absurd rfl (n d)
      | cons _ _ => rfl
  · simp only [bfun] at h
    cases ex : view M d with
    | lst xs =>
      simp only [ex] at h
      obtain ⟨a, vs, rfl, h1, h2⟩ := m.lst rv ex
      exact ⟨a, vs, rfl, .inl h1, (rp_newL m h2 h).2⟩
    | tup xs =>
      simp only [ex] at h
      obtain ⟨a, vs, rfl, h1, h2⟩ := m.tup rv ex
      exact ⟨a, vs, rfl, .inr h1, (rp_newL m h2 h).2⟩
    | _ => simp only [ex] at h; exact h.elim
theorem bools_rep : ∀ {xs : List D} {vs : List V} {bs : List Bool}, RepL T ω xs vs → bools xs = some bs → vs = bs.map V.bl
  | _, _, bs, .nil, h => by
    simp only [bools, Option.some.injEq] at h
    subst h
    rfl
  | _, _, bs, .cons (d := d) (ds := ds) r t, h => by
    cases d with
    | bl b =>
      simp only [bools] at h
      cases q : bools ds with
      | none => rw [q] at h; cases h
      | some cs =>
        rw [q] at h
        simp only [Option.map_some, Option.some.injEq] at h
        subst h
        rw [bools_rep t q, r.bl_inv]
        rfl
    | _ => simp [bools] at h
theorem ints_rep : ∀ {xs : List D} {vs : List V} {bs : List Int}, RepL T ω xs vs → intsD xs = some bs → vs = bs.map V.int
  | _, _, bs, .nil, h => by
    simp only [intsD, Option.some.injEq] at h
    subst h
    rfl
  | _, _, bs, .cons (d := d) (ds := ds) r t, h => by
    cases d with
    | int b =>
      simp only [intsD] at h
      cases q : intsD ds with
      | none => rw [q] at h; cases h
      | some cs =>
        rw [q] at h
        simp only [Option.map_some, Option.some.injEq] at h
        subst h
        rw [ints_rep t q, r.int_inv]
        rfl
    | _ => simp [intsD] at h
theorem fp_all : FnKp T W .all own (rAll T.K) := by
  refine fp_one (fun ds M n => ?_) fun σ Q ω M d v H m rv h => ?_
  · cases ds with
    | nil => rfl
    | cons d ds => cases ds with
      | nil => exact absurd rfl (n d)
      | cons _ _ => rfl
  · simp only [bfun, litems] at h
    cases ex : view M d with
    | lst xs =>
      simp only [ex] at h
      obtain ⟨a, vs, rfl, h1, h2⟩ := m.lst rv ex
      cases q : bools xs with
      | none => simp only [Option.bind_some, q] at h; exact h.elim
      | some bs =>
        simp only [Option.bind_some, q] at h
        rw [bools_rep h2 q] at h1
        exact ⟨a, bs, rfl, h1, h ω H _ (Le.refl _) m (.bl _)⟩
    | _ => simp only [ex] at h; exact h.elim
theorem fp_any : FnKp T W .any own (rAny T.K) := by
  refine fp_one (fun ds M n => ?_) fun σ Q ω M d v H m rv h => ?_
  · cases ds with
    | nil => rfl
    | cons d ds => cases ds with
      | nil => exact absurd rfl (n d)
      | cons _ _ => rfl
  · simp only [bfun, litems] at h
    cases ex : view M d with
    | lst xs =>
      simp only [ex] at h
      obtain ⟨a, vs, rfl, h1, h2⟩ := m.lst rv ex
      cases q : bools xs with
      | none => simp only [Option.bind_some, q] at h; exact h.elim
      | some bs =>
        simp only [Option.bind_some, q] at h
        rw [bools_rep h2 q] at h1
        exact ⟨a, bs, rfl, h1, h ω H _ (Le.refl _) m (.bl _)⟩
    | _ => simp only [ex] at h; exact h.elim
/-- sum of numbers, in a list or a tuple -/
def rSumA (K : PySem.W.Frag) : List V → Hp → VK → Prop := fun vs H Q => ∃ (a : Addr) (ns : List Int), vs = [V.ref a] ∧ (SqL K H a (ns.map V.int) ∨ SqT K H a (ns.map V.int)) ∧ Q (.int ns.sum) H
theorem cr_sumA (hc : X.calm = true) : CallR X (.builtin "sum") (rSumA X.K) := by
  intro pins s σ H vs us Q I r h
  obtain ⟨a, ns, rfl, hs, q⟩ := h
  rcases hs with hs | hs
  · exact cr_sum hc pins s σ H _ us Q I r ⟨a, ns, rfl, hs, q⟩
  · obtain ⟨its, rv, ht, _⟩ := I.tuple hs
    rw [Vals.ref1 r]
    have hi : IntsAre its ns := rv.ints
    obtain ⟨xs, e⟩ := hi.allInts.items
    have hn : numsOf (intItems xs).toList = ns := by rw [← e]; exact hi.numsOf
    rw [nums_intItems] at hn
    rw [e] at ht
    obtain ⟨o, h1, h2, n, h4⟩ := ht
    refine PySem.W.ktm_sumG (I.ok.hd hc) ⟨o, h1, h2, n, h4⟩ fun h' tk t' hk => ?_
    rw [preSum_eq, List.take_of_length_le (by simp), hn]
    exact ⟨.int _, H, I.kept hk, ⟨_, rfl⟩, q⟩
theorem fp_sum : FnKp T W .sum own (rSumA T.K) := by
  refine fp_one (fun ds M n => ?_) fun σ Q ω M d v H m rv h => ?_
  · cases ds with
    | nil => rfl
    | cons d ds => cases ds with
      | nil => exact absurd rfl (n d)
      | cons _ _ => rfl
  · simp only [bfun] at h
    cases ex : items M d with
    | none => simp only [ex] at h; exact h.elim
    | some xs =>
      obtain ⟨a, vs, rfl, h1, h2⟩ := m.items rv ex
      cases q : intsD xs with
      | none => simp only [ex, Option.bind_some, q] at h; exact h.elim
      | some bs =>
        simp only [ex, Option.bind_some, q] at h
        rw [ints_rep h2 q] at h1
        exact ⟨a, bs, rfl, h1, h ω H _ (Le.refl _) m (.int _)⟩
theorem fp_abs : FnKp T W .abs own (fun xs H Q => ∃ i, xs = [.int i] ∧ Q (.int (if i < 0 then -i else i)) H) := by
  refine fp_one (fun ds M n => ?_) fun σ Q ω M d v H m rv h => ?_
  · cases ds with
    | nil => rfl
    | cons d ds => cases ds with
      | nil => exact absurd rfl (n d)
      | cons _ _ => cases d <;> rfl
  · cases d with
    | int i => exact ⟨i, by rw [rv.int_inv], h ω H _ (Le.refl _) m (.int _)⟩
    | _ => exact h.elim
theorem fp_int : FnKp T W .int own (fun xs H Q => (∃ i, xs = [.int i] ∧ Q (.int i) H) ∨ ∃ k, xs = [.bl k] ∧ Q (.int (if k then 1 else 0)) H) := by
  refine fp_one (fun ds M n => ?_) fun σ Q ω M d v H m rv h => ?_
  · cases ds with
    | nil => rfl
    | cons d ds => cases ds with
      | nil => exact absurd rfl (n d)
      | cons _ _ => cases d <;> rfl
  · cases d with
    | int i => exact .inl ⟨i, by rw [rv.int_inv], h ω H _ (Le.refl _) m (.int _)⟩
    | bl b => exact .inr ⟨b, by rw [rv.bl_inv], h ω H _ (Le.refl _) m (.int _)⟩
    | _ => exact h.elim
theorem rep2 {ds : List D} {vs : List V} {d d' : D} (r : RepL T ω ds vs) (e : ds = [d, d']) : ∃ v v', vs = [v, v'] ∧ RepD T ω d v ∧ RepD T ω d' v' := by
  subst e
  cases r with
  | cons r t => cases t with
    | cons r' t => cases t; exact ⟨_, _, rfl, r, r'⟩
theorem fp_min2 : FnKp T W .min2 own (fun xs H Q => ∃ i j, xs = [.int i, .int j] ∧ Q (.int (if j < i then j else i)) H) := by
  intro σ Q ω M ds vs H m q k
  match ds, q, k with
  | [.int i, .int j], q, k =>
    obtain ⟨v, v', rfl, h1, h2⟩ := rep2 q rfl
    exact ⟨i, j, by rw [h1.int_inv, h2.int_inv], k ω H _ (Le.refl _) m (.int _)⟩
  | [], _, k => exact k.elim
  | [x], _, k => cases x <;> exact k.elim
  | x :: y :: z :: r, _, k => cases x <;> cases y <;> exact k.elim
  | [.int i, .non], _, k | [.int i, .bl _], _, k | [.int i, .str _], _, k | [.int i, .tup _], _, k | [.int i, .lst _], _, k | [.int i, .dic _ _], _, k | [.int i, .obj _ _ _], _, k | [.int i, .loc _], _, k => exact k.elim
  | [.non, y], _, k | [.bl _, y], _, k | [.str _, y], _, k | [.tup _, y], _, k | [.lst _, y], _, k | [.dic _ _, y], _, k | [.obj _ _ _, y], _, k | [.loc _, y], _, k => exact k.elim
theorem fp_max2 : FnKp T W .max2 own (fun xs H Q => ∃ i j, xs = [.int i, .int j] ∧ Q (.int (if j > i then j else i)) H) := by
  intro σ Q ω M ds vs H m q k
  match ds, q, k with
  | [.int i, .int j], q, k =>
    obtain ⟨v, v', rfl, h1, h2⟩ := rep2 q rfl
    exact ⟨i, j, by rw [h1.int_inv, h2.int_inv], k ω H _ (Le.refl _) m (.int _)⟩
  | [], _, k => exact k.elim
  | [x], _, k => cases x <;> exact k.elim
  | x :: y :: z :: r, _, k => cases x <;> cases y <;> exact k.elim
  | [.int i, .non], _, k | [.int i, .bl _], _, k | [.int i, .str _], _, k | [.int i, .tup _], _, k | [.int i, .lst _], _, k | [.int i, .dic _ _], _, k | [.int i, .obj _ _ _], _, k | [.int i, .loc _], _, k => exact k.elim
  | [.non, y], _, k | [.bl _, y], _, k | [.str _, y], _, k | [.tup _, y], _, k | [.lst _, y], _, k | [.dic _ _, y], _, k | [.obj _ _ _, y], _, k | [.loc _, y], _, k => exact k.elim
end
end Lc
end

section
set_option autoImplicit false
set_option linter.all false
set_option Elab.async false
set_option maxRecDepth 100000
/-! Lc: argument lists, keywords, calls. -/
namespace Lc
open PySem L2 PySem.Spec PyProof.Rows

def star1 : Expr → Bool
  | .Starred _ _ => true
  | _ => false
def noStar (es : List Expr) : Bool := es.all fun e => !star1 e
theorem noStar_cons {e : Expr} {es : List Expr} (h : noStar (e :: es) = true) : star1 e = false ∧ noStar es = true := by
  unfold noStar at h ⊢
  rw [List.all_cons] at h
  have h' := Bool.and_eq_true_iff.mp h
  exact ⟨by simpa using h'.1, h'.2⟩
theorem starEach_c {e : Expr} {es : List Expr} {env : Env} (h : star1 e = false) : starEach (e :: es) env = (false, eval e env) :: starEach es env := by
  cases e <;> first | rfl | cases h
theorem plain_args {pos : Pos} {env : Env} : ∀ {es : List Expr}, noStar es = true → (backTo pos (starEach es env)).any (·.1) = false
  | [], _ => rfl
  | e :: es, h => by
    have h' := noStar_cons h
    rw [starEach_c h'.1]
    show (false || (backTo pos (starEach es env)).any (·.1)) = false
    rw [plain_args h'.2]
    rfl
theorem kw_fst {pos : Pos} {env : Env} : ∀ {kws : List Keyword}, (backToKw pos (keywordEach kws env)).map (·.1) = kws.map (·.arg)
  | [] => rfl
  | ⟨n, e, p⟩ :: kws => by
    show n :: (backToKw pos (keywordEach kws env)).map (·.1) = n :: kws.map (·.arg)
    rw [kw_fst]
theorem kw_all {pos : Pos} {env : Env} {kws : List Keyword} {ks : List Str} (h : kws.map (·.arg) = ks.map some) : (backToKw pos (keywordEach kws env)).all (·.1.isSome) = true := by
  have e : (backToKw pos (keywordEach kws env)).all (·.1.isSome) = ((backToKw pos (keywordEach kws env)).map (·.1)).all (·.isSome) := by rw [List.all_map]; rfl
  rw [e, kw_fst, h]
  simp
theorem kw_any {pos : Pos} {env : Env} {kws : List Keyword} {ks : List Str} (h : kws.map (·.arg) = ks.map some) : (backToKw pos (keywordEach kws env)).any (·.1.isNone) = false := by
  have e : (backToKw pos (keywordEach kws env)).any (·.1.isNone) = ((backToKw pos (keywordEach kws env)).map (·.1)).any (·.isNone) := by rw [List.any_map]; rfl
  rw [e, kw_fst, h]
  simp
theorem kw_names {pos : Pos} {env : Env} {kws : List Keyword} {ks : List Str} (h : kws.map (·.arg) = ks.map some) : (backToKw pos (keywordEach kws env)).filterMap (·.1) = ks := by
  have e : (backToKw pos (keywordEach kws env)).filterMap (·.1) = ((backToKw pos (keywordEach kws env)).map (·.1)).filterMap id := by rw [List.filterMap_map]; rfl
  rw [e, kw_fst, h, List.filterMap_map]
  simp
def starC : CE → Bool
  | .star _ => true
  | _ => false
theorem evEs_c {E : Fe} {c : CE} {cs : List CE} {L : Loc} {M : Store} (h : starC c = false) : evEs E (c :: cs) L M = (evE E c L M).bind fun x M1 => (evEs E cs L M1).bind fun ys M2 => .ok (x :: ys) M2 := by
  cases c <;> first | (cases h; done) | (rw [evEs]; intro e he; cases he)
theorem evEs_len {E : Fe} : ∀ {cs : List CE} {L : Loc} {M M' : Store} {ds : List D}, cs.all (fun c => !starC c) = true → evEs E cs L M = .ok ds M' → ds.length = cs.length
  | [], L, M, M', ds, _, h => by
    rw [evEs] at h
    cases h
    rfl
  | c :: cs, L, M, M', ds, hs, h => by
    rw [List.all_cons] at hs
    have hs' := Bool.and_eq_true_iff.mp hs
    rw [evEs_c (by simpa using hs'.1)] at h
    cases q : evE E c L M with
    | ok x M1 =>
      rw [q] at h
      have h : (evEs E cs L M1).bind (fun ys M2 => .ok (x :: ys) M2) = .ok ds M' := h
      cases q2 : evEs E cs L M1 with
      | ok ys M2 =>
        rw [q2] at h
        have h : Res.ok (x :: ys) M2 = .ok ds M' := h
        cases h
        rw [List.length_cons, List.length_cons, evEs_len hs'.2 q2]
      | exc x M2 => rw [q2] at h; cases h
      | bad => rw [q2] at h; cases h
    | exc x M1 => rw [q] at h; cases h
    | bad => rw [q] at h; cases h
section
variable {T : Tx} {W : WX} {E : Fe} {X : Cx} {pos p apos : Pos} {e : Expr} {es : List Expr} {kws : List Keyword} {ce : CE} {cs ks : List CE} {x : Str}
theorem snd_anil : PA X [] (tDs T W E []) := pa_nil.imp fun σ H Q ⟨ω, L, M, s, m, h⟩ => by
  unfold evEs at h
  exact h ω H [] (Le.refl _) m .nil
theorem snd_acons (hs : star1 e = false) (hc : starC ce = false) (ha : PE X e (tD T W E ce)) (hr : PA X es (tDs T W E cs)) : PA X (e :: es) (tDs T W E (ce :: cs)) := (pa_cons ha hr (starEach_c hs)).imp fun σ H Q ⟨ω, L, M, s, m, h⟩ => by
  rw [evEs_c hc] at h
  refine ⟨ω, L, M, s, m, (RP.bind (R := RepD T) h).imp fun d M1 ω1 H1 v l1 m1 q1 _ r1 => ?_⟩
  refine ⟨ω1, L, M1, s.mono l1, m1, (RP.bind (R := RepL T) r1).imp fun ds M2 ω2 H2 vs l2 m2 q2 _ r2 => ?_⟩
  exact r2 ω2 H2 (v :: vs) (Le.refl _) m2 (.cons (q1.mono l2) q2)
theorem snd_knil : PK X [] (tDs T W E []) := ⟨fun pos pins s σ H Q I ⟨ω, L, M, rs, m, h⟩ => by
  unfold evEs at h
  exact (pk_nil (X := X)).run pos pins s σ H Q I (h ω H [] (Le.refl _) m .nil)⟩
theorem snd_kcons {nm : Option Str} (hc : starC ce = false) (ha : PE X e (tD T W E ce)) (hr : PK X kws (tDs T W E cs)) : PK X (⟨nm, e, p⟩ :: kws) (tDs T W E (ce :: cs)) := ⟨fun pos pins s σ H Q I ⟨ω, L, M, rs, m, h⟩ => by
  refine (pk_cons (nm := nm) (kpos := p) ha hr).run pos pins s σ H Q I ?_
  rw [evEs_c hc] at h
  refine ⟨ω, L, M, rs, m, (RP.bind (R := RepD T) h).imp fun d M1 ω1 H1 v l1 m1 q1 _ r1 => ?_⟩
  refine ⟨ω1, L, M1, rs.mono l1, m1, (RP.bind (R := RepL T) r1).imp fun ds M2 ω2 H2 vs l2 m2 q2 _ r2 => ?_⟩
  exact r2 ω2 H2 (v :: vs) (Le.refl _) m2 (.cons (q1.mono l2) q2)⟩

/-! ### built-in functions -/
theorem snd_bf {f : BF} {own : Bool} {id : String} {r : List V → Hp → VK → Prop} (hc : CallR X (.builtin id) r) (hk : FnK T W E f own r) (hg : Gl X x) (hm : X.mg x = none) (hv : bootBuiltins x = some (.builtin id)) (hn : x ≠ "__name__") (hdb : (x == ("__debug__" : Str)) = false)
    (hs : noStar (e :: es) = true) (ha : PA X (e :: es) (tDs T W E cs)) : PE X (.Call (.Name x p) (e :: es) [] pos) (tD T W E (.bf f own cs)) :=
  (pe_callB hc hg hm hv ha hn hdb (starEach_c (noStar_cons hs).1) (plain_args (noStar_cons hs).2)).imp fun σ H Q ⟨ω, L, M, s, m, h⟩ => by
    unfold evE at h
    exact ⟨ω, L, M, s, m, (RP.bind (R := RepL T) h).imp fun ds M1 ω1 H1 vs l1 m1 q1 _ r1 => hk σ Q ω1 M1 ds vs H1 m1 q1 r1⟩
theorem snd_bty {f : BF} {own : Bool} {id : String} {r : List V → Hp → VK → Prop} (hc : CallR X (.type id) r) (hk : FnK T W E f own r) (hg : Gl X x) (hm : X.mg x = none) (hv : bootBuiltins x = some (.type id)) (hn : x ≠ "__name__") (hdb : (x == ("__debug__" : Str)) = false)
    (hs : noStar (e :: es) = true) (ha : PA X (e :: es) (tDs T W E cs)) : PE X (.Call (.Name x p) (e :: es) [] pos) (tD T W E (.bf f own cs)) :=
  (pe_callTy hc hg hm hv ha hn hdb (starEach_c (noStar_cons hs).1) (plain_args (noStar_cons hs).2)).imp fun σ H Q ⟨ω, L, M, s, m, h⟩ => by
    unfold evE at h
    exact ⟨ω, L, M, s, m, (RP.bind (R := RepL T) h).imp fun ds M1 ω1 H1 vs l1 m1 q1 _ r1 => hk σ Q ω1 M1 ds vs H1 m1 q1 r1⟩
end

/-! ### how arguments bind -/
/-- the callee's slots: the values given, defaults between them -/
def pickG {α : Type} (us : List α) : List (Nat ⊕ D) → List α → Option (List α)
  | [], _ => some []
  | .inl i :: as, dv => match us[i]?, pickG us as dv with
    | some u, some r => some (u :: r)
    | _, _ => none
  | .inr _ :: as, d :: dv => (pickG us as dv).map (d :: ·)
  | .inr _ :: _, [] => none
def dfls : List (Nat ⊕ D) → List D
  | [] => []
  | .inl _ :: as => dfls as
  | .inr d :: as => d :: dfls as
structure BindP (T : Tx) (fd : FuncData) (ps : List Str) (n : Nat) (ks : List Str) (as : List (Nat ⊕ D)) : Prop where
  ex : ∃ (dv : List Value) (dV : List V), Vals dV dv ∧ (∀ ω, RepL T ω (dfls as) dV) ∧ ∀ (s : Shared) (us ws us' : List Value), T.K.In s.heap → us.length = n → ws.length = ks.length → pickG (us ++ ws) as dv = some us' → BindsTo s fd ⟨us, ks.zip ws⟩ (ps.zip us')
theorem pick_rep {T : Tx} {ω : Wd} {ds : List D} {vs : List V} {us : List Value} (r : Vals vs us) (q : RepL T ω ds vs) : ∀ {as : List (Nat ⊕ D)} {dv : List Value} {dV : List V} {es : List D}, Vals dV dv → RepL T ω (dfls as) dV → argsOf ds as = some es →
    ∃ us' vs', pickG us as dv = some us' ∧ Vals vs' us' ∧ RepL T ω es vs'
  | [], dv, dV, es, _, _, h => by
    simp only [argsOf, Option.some.injEq] at h
    subst h
    exact ⟨[], [], rfl, .nil, .nil⟩
  | .inl i :: as, dv, dV, es, hv, hd, h => by
    simp only [argsOf] at h
    cases q1 : ds[i]? with
    | none => rw [q1] at h; cases h
    | some d =>
      rw [q1] at h
      cases q2 : argsOf ds as with
      | none => rw [q2] at h; cases h
      | some es' =>
        rw [q2] at h
        cases h
        obtain ⟨v, h1, h2⟩ := q.get q1
        obtain ⟨u, h3, h4⟩ := r.get h1
        obtain ⟨us', vs', k1, k2, k3⟩ := pick_rep r q (as := as) hv hd q2
        exact ⟨u :: us', v :: vs', by simp only [pickG, h3, k1], .cons h4 k2, .cons h2 k3⟩
  | .inr d :: as, dv, dV, es, hv, hd, h => by
    simp only [argsOf] at h
    cases q2 : argsOf ds as with
    | none => rw [q2] at h; cases h
    | some es' =>
      rw [q2] at h
      cases h
      cases hd with
      | cons r1 r2 => cases hv with
        | cons k1 k2 =>
          obtain ⟨us', vs', j1, j2, j3⟩ := pick_rep r q (as := as) k2 r2 q2
          exact ⟨_ :: us', _ :: vs', by simp only [pickG, j1]; rfl, .cons k1 j2, .cons r1 j3⟩
theorem BindP.use {T : Tx} {fd : FuncData} {ps : List Str} {n : Nat} {ks : List Str} {as : List (Nat ⊕ D)} (B : BindP T fd ps n ks as) {s : Shared} {ω : Wd} {ds es : List D} {vs zs : List V} {us ws : List Value} (hK : T.K.In s.heap) (r : Vals vs us) (rz : Vals zs ws) (l1 : us.length = n) (l2 : ws.length = ks.length)
    (q : RepL T ω ds (vs ++ zs)) (h : argsOf ds as = some es) : ∃ us' vs', BindsTo s fd ⟨us, ks.zip ws⟩ (ps.zip us') ∧ Vals vs' us' ∧ RepL T ω es vs' := by
  obtain ⟨dv, dV, h1, h2, h3⟩ := B.ex
  obtain ⟨us', vs', k1, k2, k3⟩ := pick_rep (r.append rz) q h1 (h2 ω) h
  exact ⟨us', vs', h3 s us ws us' hK l1 l2 k1, k2, k3⟩

theorem argsOf_len {ds : List D} : ∀ {as : List (Nat ⊕ D)} {es : List D}, argsOf ds as = some es → es.length = as.length
  | [], es, h => by
    simp only [argsOf, Option.some.injEq] at h
    subst h
    rfl
  | .inl i :: as, es, h => by
    simp only [argsOf] at h
    cases q1 : ds[i]? with
    | none => rw [q1] at h; cases h
    | some d =>
      rw [q1] at h
      cases q2 : argsOf ds as with
      | none => rw [q2] at h; cases h
      | some es' =>
        rw [q2] at h
        cases h
        rw [List.length_cons, List.length_cons, argsOf_len q2]
  | .inr d :: as, es, h => by
    simp only [argsOf] at h
    cases q2 : argsOf ds as with
    | none => rw [q2] at h; cases h
    | some es' =>
      rw [q2] at h
      cases h
      rw [List.length_cons, List.length_cons, argsOf_len q2]
/-! ### calls of own defs -/
section
variable {T : Tx} {W : WX} {G : Prg} {k : Nat} {X : Cx} {pos p apos : Pos} {e o : Expr} {es : List Expr} {kws : List Keyword} {ce co : CE} {cs ck : List CE} {x : Str} {ks : List Str} {as : List (Nat ⊕ D)} {i np n : Nat} {f C : Addr} {fd : FuncData} {ps : List Str}
theorem evEs_app_len {ds : List D} {vs : List V} {ω : Wd} (r : RepL T ω ds vs) {cs : List CE} {L : Loc} {M M' : Store} {E : Fe} (hs : cs.all (fun c => !starC c) = true) (h : evEs E cs L M = .ok ds M') {us : List Value} (rv : Vals vs us) : us.length = cs.length := by
  rw [← rv.length, ← r.length]
  exact evEs_len hs h
/-- a call of an own def, its arguments evaluated -/
theorem call_own {pins : List (Addr × Obj)} {σ : L2.St} {H : Hp} {s : Shared} {Q : VK} {us ws : List Value} {vs zs : List V} {ds : List D} {ω : Wd} {M : Store} (F : DefOk X.prog X.w X.K X.mg X.base (4 * k) f fd ps (spF G T k i np)) (hr : Room (4 * k + 3) X.A) (hgd : X.A.guards = some []) (tk : Takes X W) (hK : X.K = T.K)
    (B : BindP T fd ps n ks as) (I : Inv X pins σ H s) (r : Vals vs us) (rz : Vals zs ws) (l1 : us.length = n) (l2 : ws.length = ks.length) (q : RepL T ω ds (vs ++ zs)) (m : RepM T ω M H) (hnp : as.length = np)
    (h : RP T W σ (RepD T) ω (match argsOf ds as with | some es => callN G k i es M | none => .bad) fun _ _ _ H' v => Q v H') :
    wpAny (model X.prog X.w) X.A (call (.ref f) us (ks.zip ws)) (EP X pins σ Q) X.xe s := by
  cases ha : argsOf ds as with
  | none => rw [ha] at h; exact h.elim
  | some es' =>
    rw [ha] at h
    obtain ⟨us', vs', b1, b2, b3⟩ := B.use (s := s) (by rw [← hK]; exact I.kIn) r rz l1 l2 q ha
    refine run_def F (hr.mono (Nat.le_add_right _ _)) hgd tk b1 b2 I b3 m ?_ h
    rw [← b3.length, ← hnp]
    exact argsOf_len ha
theorem run_args {R : Wd → D → V → Prop} {E : Fe} {σ : L2.St} {ω : Wd} {L : Loc} {M : Store} {H : Hp} {s : Shared} {pins : List (Addr × Obj)} {f : List D → Store → Res D} {Q : VK} {Qf : List Value → Shared → Prop} (ha : PA X es (tDs T W E cs)) (hcs : cs.all (fun c => !starC c) = true)
    (I : Inv X pins σ H s) (rs : RepS T ω L σ) (m : RepM T ω M H) (h : RP T W σ R ω ((evEs E cs L M).bind f) fun _ _ _ H' v => Q v H')
    (k : ∀ us s1 ds M1 ω1 H1 vs, Inv X pins σ H1 s1 → RepS T ω1 L σ → RepM T ω1 M1 H1 → RepL T ω1 ds vs → Vals vs us → us.length = cs.length → Le ω ω1 → RP T W σ R ω1 (f ds M1) (fun _ _ _ H' v => Q v H') → Qf us s1) :
    wpAny (model X.prog X.w) X.A (spliced (backTo pos (starEach es X.env))) Qf X.xe s := by
  refine thn (ha.run pos pins s σ H (fun vs H1 => ∃ ds M1 ω1, RepS T ω1 L σ ∧ RepM T ω1 M1 H1 ∧ RepL T ω1 ds vs ∧ ds.length = cs.length ∧ Le ω ω1 ∧ RP T W σ R ω1 (f ds M1) (fun _ _ _ H' v => Q v H')) I ⟨ω, L, M, rs, m, (RP.bind (R := RepL T) h).imp fun ds M1 ω1 H1 vs l1 m1 q1 e1 r1 => ⟨ds, M1, ω1, rs.mono l1, m1, q1, evEs_len hcs e1, l1, r1⟩⟩) ?_
  rintro us s1 ⟨vs, H1, I1, rv, ds, M1, ω1, a1, a2, a3, a4, a5, a6⟩
  exact k us s1 ds M1 ω1 H1 vs I1 a1 a2 a3 rv (by rw [← rv.length, ← a3.length, a4]) a5 a6
theorem run_kws {R : Wd → D → V → Prop} {E : Fe} {σ : L2.St} {ω : Wd} {L : Loc} {M : Store} {H : Hp} {s : Shared} {pins : List (Addr × Obj)} {f : List D → Store → Res D} {Q : VK} {Qf : List Value → Shared → Prop} (ha : PK X kws (tDs T W E cs)) (hcs : cs.all (fun c => !starC c) = true)
    (I : Inv X pins σ H s) (rs : RepS T ω L σ) (m : RepM T ω M H) (h : RP T W σ R ω ((evEs E cs L M).bind f) fun _ _ _ H' v => Q v H')
    (k : ∀ us s1 ds M1 ω1 H1 vs, Inv X pins σ H1 s1 → RepS T ω1 L σ → RepM T ω1 M1 H1 → RepL T ω1 ds vs → Vals vs us → us.length = cs.length → Le ω ω1 → RP T W σ R ω1 (f ds M1) (fun _ _ _ H' v => Q v H') → Qf us s1) :
    wpAny (model X.prog X.w) X.A (evalAll ((backToKw pos (keywordEach kws X.env)).map (·.2))) Qf X.xe s := by
  refine thn (ha.run pos pins s σ H (fun vs H1 => ∃ ds M1 ω1, RepS T ω1 L σ ∧ RepM T ω1 M1 H1 ∧ RepL T ω1 ds vs ∧ ds.length = cs.length ∧ Le ω ω1 ∧ RP T W σ R ω1 (f ds M1) (fun _ _ _ H' v => Q v H')) I ⟨ω, L, M, rs, m, (RP.bind (R := RepL T) h).imp fun ds M1 ω1 H1 vs l1 m1 q1 e1 r1 => ⟨ds, M1, ω1, rs.mono l1, m1, q1, evEs_len hcs e1, l1, r1⟩⟩) ?_
  rintro us s1 ⟨vs, H1, I1, rv, ds, M1, ω1, a1, a2, a3, a4, a5, a6⟩
  exact k us s1 ds M1 ω1 H1 vs I1 a1 a2 a3 rv (by rw [← rv.length, ← a3.length, a4]) a5 a6
/-- the callee and its first values known: the arguments, the keywords, then the call -/
theorem call_with {R : Wd → D → V → Prop} {E : Fe} {σ : L2.St} {ω : Wd} {L : Loc} {M : Store} {H : Hp} {s : Shared} {pins : List (Addr × Obj)} {g : List D → List D → Store → Res D} {Q : VK} {fv : Value} {first : List Value}
    (hk : PySem.W.keepIn X.K fv = true) (hlen : es.length = cs.length) (hs : noStar es = true) (hcs : cs.all (fun c => !starC c) = true) (hck : ck.all (fun c => !starC c) = true) (hl : ck.length = ks.length) (hn : kws.map (·.arg) = ks.map some)
    (ha : PA X es (tDs T W E cs)) (hkw : PK X kws (tDs T W E ck)) (I : Inv X pins σ H s) (rs : RepS T ω L σ) (m : RepM T ω M H)
    (h : RP T W σ R ω ((evEs E cs L M).bind fun vs M1 => (evEs E ck L M1).bind fun us M2 => g vs us M2) fun _ _ _ H' v => Q v H')
    (k : ∀ us ws s2 ds es' M2 ω2 H2 vs zs, Inv X pins σ H2 s2 → RepM T ω2 M2 H2 → RepL T ω2 ds vs → RepL T ω2 es' zs → Vals vs us → Vals zs ws → us.length = cs.length → ws.length = ks.length → Le ω ω2 → RP T W σ R ω2 (g ds es' M2) (fun _ _ _ H' v => Q v H') →
      wpAny (model X.prog X.w) X.A (call fv (first ++ us) (ks.zip ws)) (EP X pins σ Q) X.xe s2) :
    wpAny (model X.prog X.w) X.A (callWith pos fv first (backTo pos (starEach es X.env)) (backToKw pos (keywordEach kws X.env))) (EP X pins σ Q) X.xe s := by
  cases es with
  | nil =>
    refine PySem.W.callWith_KW0 (h₀ := X.base) I.ok.mod.kin hk (kw_all hn) ?_ (by rw [kw_any hn]; rfl)
    rw [kw_names hn]
    have ec : cs = [] := by
      cases cs with
      | nil => rfl
      | cons _ _ => cases hlen
    subst ec
    rw [evEs] at h
    exact run_kws (pos := pos) hkw hck I rs m (f := g []) h fun ws s2 es' M2 ω2 H2 zs I2 rs2 m2 q2 rz lw l2 r2 => ⟨I2.kIn, k [] ws s2 [] es' M2 ω2 H2 [] zs I2 m2 .nil q2 .nil rz rfl (lw.trans hl) l2 r2⟩
  | cons e es =>
    refine PySem.W.callWith_KW (h₀ := X.base) I.ok.mod.kin hk (kw_all hn) ?_ (by rw [plain_args hs, kw_any hn]; rfl) (starEach_c (noStar_cons hs).1)
    rw [kw_names hn]
    exact run_args (pos := pos) ha hcs I rs m h fun us s1 ds M1 ω1 H1 vs I1 rs1 m1 q1 rv lu l1 r1 => run_kws hkw hck I1 rs1 m1 r1 fun ws s2 es' M2 ω2 H2 zs I2 rs2 m2 q2 rz lw l2 r2 =>
      ⟨I2.kIn, k us ws s2 ds es' M2 ω2 H2 vs zs I2 m2 (q1.mono l2) q2 rv rz lu (lw.trans hl) (l1.trans l2) r2⟩
/-- f(e, .., k = v, ..) -/
theorem snd_call (F : DefOk X.prog X.w X.K X.mg X.base (4 * k) f fd ps (spF G T k i np)) (hr : Room (4 * k + 3) X.A) (hgd : X.A.guards = some []) (tk : Takes X W) (hK : X.K = T.K) (hg : Gl X x) (hm : X.mg x = some (.ref f)) (hk : PySem.W.keepIn X.K (.ref f) = true) (hdb : (x == ("__debug__" : Str)) = false)
    (B : BindP T fd ps cs.length ks as) (hnp : as.length = np) (hlen : es.length = cs.length) (hs : noStar es = true) (hcs : cs.all (fun c => !starC c) = true) (hck : ck.all (fun c => !starC c) = true) (hl : ck.length = ks.length) (hn : kws.map (·.arg) = ks.map some)
    (ha : PA X es (tDs T W (feOf G k) cs)) (hkw : PK X kws (tDs T W (feOf G k) ck)) : PE X (.Call (.Name x p) es kws pos) (tD T W (feOf G k) (.call i cs ck as)) := by
  refine ⟨fun pins s σ H Q I ⟨ω, L, M, rs, m, h⟩ => ?_⟩
  unfold evE at h
  refine wpAny_Call_Name_kw (ld_glob I hg hm ?_ hdb)
  refine call_with (R := RepD T) (first := []) hk hlen hs hcs hck hl hn ha hkw I rs m h fun us ws s2 ds es' M2 ω2 H2 vs zs I2 m2 q2 q3 rv rz lu lw l2 r2 => ?_
  exact call_own F hr hgd tk hK B I2 rv rz lu lw (q2.append q3) m2 hnp r2
theorem RepM.obj {ω : Wd} {M : Store} {H : Hp} {d : D} {v : V} {c : Nat} {ns : List Str} {vs : List D} (m : RepM T ω M H) (r : RepD T ω d v) (h : view M d = .obj c ns vs) :
    ∃ a dx ws, v = .ref a ∧ H a = some (.ins (T.cA c) dx (ns.zip ws)) ∧ ns.length = ws.length ∧ RepL T ω vs ws := by
  cases r with
  | obj h1 h2 h3 h4 =>
    unfold view at h
    cases h
    exact ⟨_, _, _, rfl, m.F _ _ h1, h3, h4⟩
  | @loc n a h1 =>
    unfold view at h
    cases q : M[n]? with
    | none => simp [q] at h
    | some o =>
      cases o with
      | obj c' ns' vs' =>
        simp [q] at h
        obtain ⟨rfl, rfl, rfl⟩ := h
        obtain ⟨a', h2, _, h3⟩ := m.at_ n _ q (by simp)
        rw [h1] at h2
        cases h2
        cases h3 with
        | obj k1 k2 k3 k4 k5 => exact ⟨_, _, _, rfl, k1, k4, k5⟩
      | _ => simp [q] at h
  | _ => unfold view at h; cases h
theorem lookup_zip_none {f : Str} : ∀ {ns : List Str} {ws : List V}, ns.contains f = false → (ns.zip ws).lookup f = none
  | [], _, _ => rfl
  | n :: ns, [], _ => rfl
  | n :: ns, w :: ws, h => by
    have h' : f ≠ n ∧ ns.contains f = false := by
      simp only [List.contains_cons, Bool.or_eq_false_iff, beq_eq_false_iff_ne] at h
      exact h
    rw [List.zip_cons_cons, List.lookup_cons, beq_eq_false_iff_ne.mpr h'.1]
    exact lookup_zip_none h'.2
theorem star_all {pos : Pos} {env : Env} : ∀ {es : List Expr}, noStar es = true → (backTo pos (starEach es env)).all (fun x => !x.1) = true
  | [], _ => rfl
  | e :: es, h => by
    have h' := noStar_cons h
    rw [starEach_c h'.1]
    show (true && (backTo pos (starEach es env)).all (fun x => !x.1)) = true
    rw [star_all h'.2]
    rfl
theorem kw_isEmpty {pos : Pos} {env : Env} {kws : List Keyword} : (backToKw pos (keywordEach kws env)).isEmpty = kws.isEmpty := by
  match kws with
  | [] => rfl
  | ⟨_, _, _⟩ :: _ => rfl
theorem meth_tree {o : Expr} {m : Str} {es : List Expr} {kws : List Keyword} {ks : List Str} {env : Env} (hb : attributeBase o m env (eval o env) = eval o env) (hline : (apos.endLine == pos.line) = true) (hfew : es.length + kws.length + (if kws.isEmpty then 0 else 1) < 30) (hs : noStar es = true) (hn : kws.map (·.arg) = ks.map some) :
    eval (.Call (.Attribute o m apos) es kws pos) env = (do
      let ov ← eval o env
      standAt apos.atName
      let (f, first) ← holding [ov] (getMethod ov m (do return (← importBound o env).getD true))
      callWith pos f first (backTo pos (starEach es env)) (backToKw pos (keywordEach kws env))) := by
  refine mcall_of hb fun ov => ?_
  have e1 : methodCallForm (es.length + kws.length) (backTo pos (starEach es env)) (backToKw pos (keywordEach kws env)) = true := by
    unfold methodCallForm
    rw [star_all hs, kw_all hn, kw_isEmpty]
    simpa using hfew
  have e2 : methodCallPos true o env apos pos = pure pos := by unfold methodCallPos; simp [hline]
  unfold methodCall
  rw [e1, e2]
  unfold calleeOf
  simp
/-- o.m(e, .., k = v, ..), o an instance -/
theorem snd_meth {m : Str} (hr : Room (4 * k + 3) X.A) (hgd : X.A.guards = some []) (tk : Takes X W) (hK : X.K = T.K)
    (hm : ∀ c j, G.meth c m = some j → Cls T.K (T.cA c) ∧ ∃ f fd ps np, Meth T.K (T.cA c) m f ∧ DefOk X.prog X.w X.K X.mg X.base (4 * k) f fd ps (spF G T k j np) ∧ as.length = np ∧ BindP T fd ps (cs.length + 1) ks as)
    (hb : attributeBase o m X.env (eval o X.env) = eval o X.env) (hline : (apos.endLine == pos.line) = true) (hfew : es.length + kws.length + (if kws.isEmpty then 0 else 1) < 30) (hlen : es.length = cs.length) (hs : noStar es = true) (hcs : cs.all (fun c => !starC c) = true) (hck : ck.all (fun c => !starC c) = true) (hl : ck.length = ks.length) (hn : kws.map (·.arg) = ks.map some)
    (ho : PE X o (tD T W (feOf G k) co)) (ha : PA X es (tDs T W (feOf G k) cs)) (hkw : PK X kws (tDs T W (feOf G k) ck)) : PE X (.Call (.Attribute o m apos) es kws pos) (tD T W (feOf G k) (.meth m co cs ck as)) := by
  refine ⟨fun pins s σ H Q I ⟨ω, L, M, rs, mm, h⟩ => ?_⟩
  unfold evE at h
  refine PySem.W.methodCall_KW (thn (ho.run pins s σ H (fun v H1 => ∃ x M1 ω1, RepS T ω1 L σ ∧ RepM T ω1 M1 H1 ∧ RepD T ω1 x v ∧ RP T W σ (RepD T) ω1 (match methOf (feOf G k) M1 x m with
    | some f => (evEs (feOf G k) cs L M1).bind fun vs M1 => (evEs (feOf G k) ck L M1).bind fun us M2 => match argsOf (x :: vs ++ us) as with
      | some ws => (feOf G k).call f ws M2
      | none => .bad
    | none => .bad) fun _ _ _ H' v => Q v H') I ⟨ω, L, M, rs, mm, (RP.bind (R := RepD T) h).imp fun x M1 ω1 H1 v l1 m1 q1 _ r1 => ⟨x, M1, ω1, rs.mono l1, m1, q1, r1⟩⟩) ?_) (meth_tree hb hline hfew hs hn)
  rintro ov s1 ⟨v, H1, I1, rv, x, M1, ω1, rs1, m1, q1, r1⟩
  cases e1 : methOf (feOf G k) M1 x m with
  | none => rw [e1] at r1; exact r1.elim
  | some j =>
    rw [e1] at r1
    unfold methOf at e1
    cases e2 : view M1 x with
    | obj c ns fs =>
      rw [e2] at e1
      simp only at e1
      by_cases e3 : ns.contains m = true
      · rw [if_pos e3] at e1; cases e1
      · rw [if_neg e3] at e1
        obtain ⟨hC, f, fd, ps, np, hM, F, hnp, B⟩ := hm c j e1
        obtain ⟨a, dx, ws, rfl, ea, _, _⟩ := m1.obj q1 e2
        obtain rfl : ov = Value.ref a := rv
        rw [← hK] at hC hM
        refine getmeth_ok I1 ea hC hM (lookup_zip_none (by simpa using e3)) ?_
        refine call_with (R := RepD T) (first := [.ref a]) (ks := ks) (g := fun vs us M2 => match argsOf (x :: vs ++ us) as with | some ws => (feOf G k).call j ws M2 | none => .bad) hM.kp hlen hs hcs hck hl hn ha hkw I1 rs1 m1 r1 fun us ws s2 ds es' M2 ω2 H2 vs zs I2 m2 q2 q3 rv2 rz lu lw l2 r2 => ?_
        exact call_own F hr hgd tk hK B I2 (vs := .ref a :: vs) (.cons rfl rv2) rz (by simpa using lu) lw (.cons (q1.mono l2) (q2.append q3)) m2 hnp r2
    | _ => rw [e2] at e1; cases e1
end
end Lc
end

section
set_option autoImplicit false
set_option linter.all false
set_option Elab.async false
set_option maxRecDepth 100000
/-! Lc: the store written; things let freeze; objects made, their fields. -/
namespace Lc
open PySem L2 PySem.Spec PyProof.Rows
section
variable {T : Tx} {ω : Wd} {M : Store} {H : Hp} {a : Addr} {o : HO}
/-- what stands at a place is no dict of an object -/
theorem RepO.noOwn {x y : Addr} {q : AO} (r : RepO T ω H x q) : H x ≠ some (.own y) := by
  cases r with
  | lst h _ => rw [h]; nofun
  | dicK h _ _ => rw [h]; nofun
  | dicT h _ _ _ => rw [h]; nofun
  | obj h _ _ _ _ => rw [h]; nofun
theorem RepO.laid {x : Addr} {q : AO} (r : RepO T ω H x q) : H x ≠ none := by
  cases r with
  | lst h _ => rw [h]; nofun
  | dicK h _ _ => rw [h]; nofun
  | dicT h _ _ _ => rw [h]; nofun
  | obj h _ _ _ _ => rw [h]; nofun
/-- the heap grows by what nobody names -/
theorem RepM.heap (m : RepM T ω M H) (n : H a = Option.none) : RepM T ω M (upd H a o) := by
  refine ⟨fun b u e => by rw [upd_ne (ne_of_none e (m.none n))]; exact m.F _ _ e, m.len, fun k q e nd => ?_, m.inj⟩
  obtain ⟨x, h1, h2, h3⟩ := m.at_ k q e nd
  have hx : x ≠ a := fun z => h3.laid (by rw [z]; exact n)
  exact ⟨x, h1, h2, h3.keep (Le.refl _) (fun u e => by rw [upd_ne hx]; exact e) (fun y e => by rw [upd_ne (ne_of_none e n)]; exact e) (fun y _ f => f)⟩
/-- a place written -/
theorem RepM.write {n : Nat} {q q' : AO} (m : RepM T ω M H) (hn : M[n]? = some q) (nd : q ≠ .dead) (ha : ω.ρ[n]? = some a) (r : RepO T ω (upd H a o) a q') : RepM T ω (M.set n q') (upd H a o) := by
  obtain ⟨a', h1, h2, h3⟩ := m.at_ n q hn nd
  rw [ha] at h1
  cases h1
  have hl := (List.getElem?_eq_some_iff.mp hn).1
  refine ⟨fun b u e => ?_, by rw [List.length_set]; exact m.len, fun k p e np => ?_, fun i j b p p' e1 e2 e3 e4 n1 n2 => ?_⟩
  · rw [upd_ne (ne_of_none e h2)]
    exact m.F _ _ e
  · by_cases hk : n = k
    · subst hk
      rw [List.getElem?_set_self hl] at e
      cases e
      exact ⟨a, ha, h2, r⟩
    · rw [List.getElem?_set_ne hk] at e
      obtain ⟨x, k1, k2, k3⟩ := m.at_ k p e np
      have hx : x ≠ a := fun z => hk (m.inj n k a q p ha (by rw [← z]; exact k1) hn e nd np)
      exact ⟨x, k1, k2, k3.keep (Le.refl _) (fun u e => by rw [upd_ne hx]; exact e) (fun y e => by rw [upd_ne (fun z => h3.noOwn (by rw [← z]; exact e))]; exact e) (fun y _ f => f)⟩
  · have at' : ∀ {k : Nat} {p : AO}, (M.set n q')[k]? = some p → p ≠ .dead → ∃ p0, M[k]? = some p0 ∧ p0 ≠ .dead := fun {k p} e np => by
      by_cases hk : n = k
      · exact ⟨q, hk ▸ hn, nd⟩
      · rw [List.getElem?_set_ne hk] at e
        exact ⟨p, e, np⟩
    obtain ⟨p0, a1, a2⟩ := at' e3 n1
    obtain ⟨p1, b1, b2⟩ := at' e4 n2
    exact m.inj i j b p0 p1 e1 e2 a1 b1 a2 b2
/-- what is frozen of a place -/
def AO.frz : AO → D
  | .lst xs => .lst xs
  | .dic ks vs => .dic ks vs
  | .obj c ns vs => .obj c ns vs
  | .dead => .non
theorem RepM.freeze {n : Nat} {q : AO} (m : RepM T ω M H) (hn : M[n]? = some q) (nd : q ≠ .dead) (ha : ω.ρ[n]? = some a) : ∃ ω', Le ω ω' ∧ RepM T ω' (M.set n .dead) H ∧ RepD T ω' q.frz (.ref a) := by
  obtain ⟨a', h1, h2, h3⟩ := m.at_ n q hn nd
  rw [ha] at h1
  cases h1
  -- the frozen part of the heap grows by what stands at a
  have key : ∀ F' : Hp, Same ω.F F' → Same F' H → (∀ b, F' b ≠ Option.none → ω.F b ≠ Option.none ∨ b = a ∨ H b = some (.own a)) → RepM T ⟨F', ω.ρ⟩ (M.set n .dead) H := fun F' s1 s2 s3 => by
    have none' : ∀ {b : Addr}, ω.F b = Option.none → b ≠ a → H b ≠ some (.own a) → F' b = Option.none := fun {b} e1 e2 e3 => by
      cases z : F' b with
      | none => rfl
      | some u =>
        rcases s3 b (by rw [z]; nofun) with k | k | k
        · exact absurd e1 k
        · exact absurd k e2
        · exact absurd k e3
    refine ⟨s2, by rw [List.length_set]; exact m.len, fun k p e np => ?_, fun i j b p p' e1 e2 e3 e4 n1 n2 => ?_⟩
    · have hk : n ≠ k := fun z => by
        subst z
        rw [List.getElem?_set_self (List.getElem?_eq_some_iff.mp hn).1] at e
        cases e
        exact np rfl
      rw [List.getElem?_set_ne hk] at e
      obtain ⟨x, k1, k2, k3⟩ := m.at_ k p e np
      have hx : x ≠ a := fun z => hk (m.inj n k a q p ha (by rw [← z]; exact k1) hn e nd np)
      refine ⟨x, k1, none' k2 hx k3.noOwn, k3.keep ⟨s1, List.prefix_refl _⟩ (fun u e => e) (fun y e => e) (fun y e f => none' f (fun z => ?_) (fun z => ?_))⟩
      · subst z
        exact h3.noOwn e
      · rw [e] at z
        cases z
        exact hx rfl
    · have at' : ∀ {k : Nat} {p : AO}, (M.set n .dead)[k]? = some p → p ≠ .dead → M[k]? = some p := fun {k p} e np => by
        by_cases hk : n = k
        · subst hk
          rw [List.getElem?_set_self (List.getElem?_eq_some_iff.mp hn).1] at e
          cases e
          exact absurd rfl np
        · rw [List.getElem?_set_ne hk] at e
          exact e
      exact m.inj i j b p p' e1 e2 (at' e3 n1) (at' e4 n2) n1 n2
  have one : ∀ {o : HO}, H a = some o → Le ω ⟨upd ω.F a o, ω.ρ⟩ ∧ RepM T ⟨upd ω.F a o, ω.ρ⟩ (M.set n .dead) H := fun {o} e => by
    refine ⟨Le.put h2, key _ (Le.put h2).F (fun b u z => ?_) (fun b z => ?_)⟩
    · by_cases hb : b = a
      · subst hb
        rw [upd_same] at z
        rw [e, ← z]
      · rw [upd_ne hb] at z
        exact m.F _ _ z
    · by_cases hb : b = a
      · exact .inr (.inl hb)
      · rw [upd_ne hb] at z
        exact .inl z
  cases h3 with
  | lst h r =>
    obtain ⟨l, m'⟩ := one h
    exact ⟨_, l, m', .lst (.inl (.inl (upd_same ..))) (r.mono l)⟩
  | dicK h r s =>
    obtain ⟨l, m'⟩ := one h
    exact ⟨_, l, m', .dicK (upd_same ..) (r.mono l) (s.mono l)⟩
  | dicT h e r s =>
    obtain ⟨l, m'⟩ := one h
    exact ⟨_, l, m', .dicT (upd_same ..) e (r.mono l) (s.mono l)⟩
  | @obj dx c ns vs ws h e f z r =>
    have ne : dx ≠ a := fun z => by subst z; rw [h] at e; cases e
    have l : Le ω ⟨upd (upd ω.F a (.ins (T.cA c) dx (ns.zip ws))) dx (.own a), ω.ρ⟩ := ⟨fun b u z => by
      have hb1 : b ≠ dx := ne_of_none z f
      have hb2 : b ≠ a := ne_of_none z h2
      show upd (upd ω.F a _) dx _ b = _
      rw [upd_ne hb1, upd_ne hb2]
      exact z, List.prefix_refl _⟩
    refine ⟨_, l, key _ l.F (fun b u z => ?_) (fun b z => ?_), .obj (a := a) (dx := dx) (ws := ws) (by show upd (upd ω.F a _) dx _ a = _; rw [upd_ne (Ne.symm ne), upd_same]) (upd_same ..) z (r.mono l)⟩
    · by_cases hb : b = dx
      · subst hb
        rw [upd_same] at z
        rw [e, ← z]
      · rw [upd_ne hb] at z
        by_cases hb2 : b = a
        · subst hb2
          rw [upd_same] at z
          rw [h, ← z]
        · rw [upd_ne hb2] at z
          exact m.F _ _ z
    · by_cases hb : b = dx
      · subst hb
        exact .inr (.inr e)
      · rw [upd_ne hb] at z
        by_cases hb2 : b = a
        · exact .inr (.inl hb2)
        · rw [upd_ne hb2] at z
          exact .inl z
end
section
variable {T : Tx} {W : WX} {G : Prg} {k : Nat} {X : Cx} {pos p apos : Pos} {e o : Expr} {es : List Expr} {kws : List Keyword} {ce co : CE} {cs ck : List CE} {x : Str} {ks : List Str} {as : List (Nat ⊕ D)} {i np n : Nat} {f C : Addr} {fd : FuncData} {ps : List Str} {E : Fe} {own : Bool}
/-- a thing of the store let freeze -/
theorem rp_freeze {σ : L2.St} {Q : VK} {ω : Wd} {M : Store} {H : Hp} {d : D} {v : V} (m : RepM T ω M H) (r : RepD T ω d v) (h : RP T W σ (RepD T) ω (freeze d M) fun _ _ _ H' v => Q v H') : Q v H := by
  unfold freeze at h
  cases r with
  | @loc n a e =>
    simp only at h
    cases q : M[n]? with
    | none => rw [q] at h; exact h.elim
    | some o =>
      rw [q] at h
      cases o with
      | dead => exact h.elim
      | lst xs => obtain ⟨ω', l, m', r'⟩ := m.freeze q nofun e; exact h ω' H _ l m' r'
      | dic a b => obtain ⟨ω', l, m', r'⟩ := m.freeze q nofun e; exact h ω' H _ l m' r'
      | obj a b c => obtain ⟨ω', l, m', r'⟩ := m.freeze q nofun e; exact h ω' H _ l m' r'
  | non => exact h ω H _ (Le.refl _) m .non
  | bl b => exact h ω H _ (Le.refl _) m (.bl b)
  | int b => exact h ω H _ (Le.refl _) m (.int b)
  | str b => exact h ω H _ (Le.refl _) m (.str b)
  | cls b => exact h ω H _ (Le.refl _) m (.cls b)
  | tup a b => exact h ω H _ (Le.refl _) m (.tup a b)
  | lst a b => exact h ω H _ (Le.refl _) m (.lst a b)
  | dicK a b c => exact h ω H _ (Le.refl _) m (.dicK a b c)
  | dicT a b c d => exact h ω H _ (Le.refl _) m (.dicT a b c d)
  | obj a b c d => exact h ω H _ (Le.refl _) m (.obj a b c d)
theorem snd_frz (he : PE X e (tD T W E ce)) : PE X e (tD T W E (.frz ce)) := he.imp fun σ H Q ⟨ω, L, M, s, m, h⟩ => by
  unfold evE at h
  exact ⟨ω, L, M, s, m, (RP.bind (R := RepD T) h).imp fun d M1 ω1 H1 v l1 m1 q1 _ r1 => rp_freeze m1 q1 r1⟩

/-! ### fields -/
theorem lookF_zip {T : Tx} {ω : Wd} {f : Str} : ∀ {ns : List Str} {vs : List D} {ws : List V} {d : D}, RepL T ω vs ws → lookF f ns vs = some d → ∃ v, (ns.zip ws).lookup f = some v ∧ RepD T ω d v
  | [], _, _, _, _, h => by simp [lookF] at h
  | n :: ns, [], _, _, _, h => by simp [lookF] at h
  | n :: ns, v :: vs, _, d, .cons (v := w) r t, h => by
    simp only [lookF] at h
    rw [List.zip_cons_cons, List.lookup_cons]
    by_cases c : n = f
    · rw [if_pos c] at h
      cases h
      rw [beq_iff_eq.mpr c.symm]
      exact ⟨w, rfl, r⟩
    · rw [if_neg c] at h
      rw [beq_eq_false_iff_ne.mpr (fun z => c z.symm)]
      exact lookF_zip t h
theorem rp_fld {σ : L2.St} {Q : VK} {ω : Wd} {M : Store} {H : Hp} {d : D} {v : V} {f : Str} (hf : ∀ c, E.fld c f = true → Cls T.K (T.cA c) ∧ NoAttr T.K (T.cA c) f) (m : RepM T ω M H) (r : RepD T ω d v) (h : RP T W σ (RepD T) ω (fldE E d f M) fun _ _ _ H' v => Q v H') :
    ∃ a C dx fs u, v = .ref a ∧ H a = some (.ins C dx fs) ∧ Cls T.K C ∧ NoAttr T.K C f ∧ fs.lookup f = some u ∧ Q u H := by
  unfold fldE at h
  cases ex : view M d with
  | obj c ns vs =>
    rw [ex] at h
    simp only at h
    cases q1 : E.fld c f with
    | false => rw [q1] at h; exact h.elim
    | true =>
      cases q2 : lookF f ns vs with
      | none => rw [q1, q2] at h; exact h.elim
      | some d' =>
        rw [q1, q2] at h
        obtain ⟨a, dx, ws, rfl, ea, _, rl⟩ := m.obj r ex
        obtain ⟨u, l, ru⟩ := lookF_zip rl q2
        exact ⟨a, _, dx, _, u, rfl, ea, (hf c q1).1, (hf c q1).2, l, h ω H _ (Le.refl _) m ru⟩
  | _ => rw [ex] at h; exact h.elim
theorem snd_fld {f : Str} (hK : X.K = T.K) (hf : ∀ c, E.fld c f = true → Cls T.K (T.cA c) ∧ NoAttr T.K (T.cA c) f) (hb : attributeBase e f X.env (eval e X.env) = eval e X.env) (he : PE X e (tD T W E ce)) : PE X (.Attribute e f pos) (tD T W E (.fld ce f)) :=
  (pe_fld he hb).imp fun σ H Q ⟨ω, L, M, s, m, h⟩ => by
    unfold evE at h
    rw [hK]
    exact ⟨ω, L, M, s, m, (RP.bind (R := RepD T) h).imp fun d M1 ω1 H1 v l1 m1 q1 _ r1 => rp_fld hf m1 q1 r1⟩
theorem getprop_g {pins : List (Addr × Obj)} {σ : L2.St} {H : Hp} {s : Shared} {Q : VK} {b : Bool} {E' : Value → Shared → Prop} {a dx C p g : Addr} {fs : List (Str × V)} {f : Str} {sp : Sp} (I : Inv X pins σ H s) (ea : H a = some (.ins C dx fs)) (c : Cls X.K C) (hp : PropOf X.K C f p g)
    (F : DefOk X.prog X.w X.K X.mg X.base n g fd ps sp) (hr : Room (n + 1) X.A) (hgd : X.A.guards = some []) (hb : Binds X.K fd ps []) (h : sp [.ref a] H Q fun _ _ _ => False) : wpAny (model X.prog X.w) X.A (getAttr (.ref a) f b) (EP X pins σ Q) E' s := by
  obtain ⟨mA, ob, _⟩ := ins_get I.hok ea
  obtain ⟨od, inst, _⟩ := ob.look
  obtain ⟨more, rec⟩ := hp.rec_
  have tick := I.tok (s.toks + 1)
  have one : ([Value.ref a] ++ []).length = ps.length := (F.len _ _ _ _ h : _)
  have known : (PySem.W.clsIn X.K C).isSome = true := by
    obtain ⟨cd, z, _⟩ := PySem.W.any_some c.hd
    rw [z]
    rfl
  have pg := PySem.W.plainGet_of (c.get f)
  refine PySem.W.get_bind I.kIn inst pg.1 (PySem.W.findObj_data known hp.at_ hp.get hp.tak) pg.2 (wpAny_call (PySem.W.prop_get (s := { s with toks := s.toks + 1 }) I.kIn rec ?_))
  refine codeAny_mono (F.run X.A.in1 X.stack { s with toks := s.toks + 1 } H ⟨[.ref a], []⟩ [.ref a] [.ref a] Q (fun _ _ _ => False) hr.in1 hgd tick.env0.in1 (hb _ [.ref a] tick.kIn one) (.cons rfl .nil) h) fun r s' out => ?_
  rcases r with er | fl
  · obtain ⟨_, _, _, _, _, _, _, _, _, _, _, _, no⟩ := out
    exact no.elim
  · cases fl
    case ret u =>
      obtain ⟨v, H2, J, rv, q⟩ := tick.after out
      show wpAny _ _ (handedOut u) _ _ _
      rw [PySem.W.handedOut_of (handed_of rv)]
      exact wpAny_pure ⟨v, H2, J, rv, q⟩
    all_goals exact False.elim out
/-- a property -/
theorem snd_prop {f : Str} (hr : Room (4 * k + 3) X.A) (hgd : X.A.guards = some []) (hK : X.K = T.K) (hp : ∀ c j, G.prop c f = some j → Cls T.K (T.cA c) ∧ ∃ p g fd ps, PropOf T.K (T.cA c) f p g ∧ DefOk X.prog X.w X.K X.mg X.base (4 * k) g fd ps (spF G T k j 1) ∧ Binds T.K fd ps [])
    (tk : Takes X W) (hb : attributeBase e f X.env (eval e X.env) = eval e X.env) (he : PE X e (tD T W (feOf G k) ce)) : PE X (.Attribute e f pos) (tD T W (feOf G k) (.prop ce f)) := by
  refine ⟨fun pins s σ H Q I ⟨ω, L, M, rs, m, h⟩ => ?_⟩
  unfold evE at h
  refine attr_of hb (thn (he.run pins s σ H (fun v H1 => ∃ d M1 ω1, RepM T ω1 M1 H1 ∧ RepD T ω1 d v ∧ RP T W σ (RepD T) ω1 (match view M1 d with
    | .obj c _ _ => match (feOf G k).prop c f with | some g => noexc ((feOf G k).call g [d] M1) | none => .bad
    | _ => .bad) fun _ _ _ H' v => Q v H') I ⟨ω, L, M, rs, m, (RP.bind (R := RepD T) h).imp fun d M1 ω1 H1 v l1 m1 q1 _ r1 => ⟨d, M1, ω1, m1, q1, r1⟩⟩) ?_)
  rintro u s1 ⟨v, H1, I1, rv, d, M1, ω1, m1, q1, r1⟩
  cases ex : view M1 d with
  | obj c ns vs =>
    rw [ex] at r1
    simp only at r1
    cases ep : (feOf G k).prop c f with
    | none => rw [ep] at r1; exact r1.elim
    | some j =>
      rw [ep] at r1
      obtain ⟨hC, p, g, fd, ps, hP, F, B⟩ := hp c j ep
      obtain ⟨a, dx, ws, rfl, ea, _, _⟩ := m1.obj q1 ex
      obtain rfl : u = Value.ref a := rv
      rw [← hK] at hC hP B
      refine getprop_g I1 ea hC hP F (hr.mono (by omega)) hgd B ⟨rfl, ω1, [d], M1, .cons q1 .nil, m1, ?_⟩
      · have r1 : RP T W σ (RepD T) ω1 (noexc (callN G k j [d] M1)) fun _ _ _ H' v => Q v H' := r1
        cases e2 : callN G k j [d] M1 with
        | ok y M2 => rw [e2] at r1; exact r1
        | exc y M2 => rw [e2] at r1; exact r1.elim
        | bad => rw [e2] at r1; exact r1
  | _ => rw [ex] at r1; exact r1.elim
end
end Lc
end

section
set_option autoImplicit false
set_option linter.all false
set_option Elab.async false
set_option maxRecDepth 100000
/-! Lc: objects made; class methods. -/
namespace Lc
open PySem L2 PySem.Spec PyProof.Rows
section
variable {T : Tx} {W : WX} {G : Prg} {k : Nat} {X : Cx} {pos p apos : Pos} {e o : Expr} {es : List Expr} {kws : List Keyword} {ce co : CE} {cs ck : List CE} {x : Str} {ks : List Str} {as : List (Nat ⊕ D)} {i np n c : Nat} {f : Addr} {fd : FuncData} {ps : List Str} {own : Bool}
theorem make_guards {A : Around} {C : Addr} {us : List Value} {kw : List (Str × Value)} (h : A.guards = some []) : (A.under (.builtin "type.__call__" ⟨.ref C :: us, kw⟩)).guards = some [] := by
  unfold Around.under
  simp only [h]
  rfl
theorem made_rep {ω : Wd} {M : Store} {H : Hp} {y dx : Addr} (m : RepM T ω M H) (hd : H dx = none) (hy : H y = none) (ne : dx ≠ y) : Le ω ⟨ω.F, ω.ρ ++ [y]⟩ ∧ RepM T ⟨ω.F, ω.ρ ++ [y]⟩ (M ++ [.obj c [] []]) (upd (upd H dx (.own y)) y (.ins (T.cA c) dx [])) ∧ RepD T ⟨ω.F, ω.ρ ++ [y]⟩ (.loc M.length) (.ref y) := by
  refine ⟨Le.snoc, (m.heap (o := .own y) hd).snoc (by rw [upd_ne (Ne.symm ne)]; exact hy) fun ω' e => ?_, .loc ?_⟩
  · subst e
    exact .obj (ws := []) (upd_same ..) (by rw [upd_ne ne, upd_same]) (m.none hd) rfl .nil
  · show (ω.ρ ++ [y])[M.length]? = some y
    rw [← m.len, List.getElem?_append_right (Nat.le_refl _), Nat.sub_self]
    rfl
theorem make_own {pins : List (Addr × Obj)} {σ : L2.St} {H : Hp} {s : Shared} {Q : VK} {us ws : List Value} {vs zs : List V} {ds : List D} {ω : Wd} {M : Store} (Mk : Mk T.K (T.cA c) f) (F : DefOk X.prog X.w X.K X.mg X.base (4 * k) f fd ps (spF G T k i np)) (hr : Room (4 * k + 3) X.A) (hgd : X.A.guards = some []) (tk : Takes X W) (hK : X.K = T.K)
    (hi : G.meth c sInit = some i) (B : BindP T fd ps (n + 1) ks as) (I : Inv X pins σ H s) (r : Vals vs us) (rz : Vals zs ws) (l1 : us.length = n) (l2 : ws.length = ks.length) (q : RepL T ω ds (vs ++ zs)) (m : RepM T ω M H) (hnp : as.length = np)
    (h : RP T W σ (RepD T) ω (makeE (feOf G k) own c as ds M) fun _ _ _ H' v => Q v H') :
    wpAny (model X.prog X.w) X.A (call (.ref (T.cA c)) us (ks.zip ws)) (EP X pins σ Q) X.xe s := by
  unfold makeE at h
  have hi' : (feOf G k).meth c sInit = some i := hi
  rw [hi'] at h
  cases ha : argsOf (.loc M.length :: ds) as with
  | none => rw [ha] at h; exact h.elim
  | some es' =>
    rw [ha] at h
    simp only at h
    have hx := I.hok.fresh (Nat.le_succ s.heap.objs.size)
    have hd := I.hok.fresh (Nat.le_refl s.heap.objs.size)
    obtain ⟨l, m2, q2⟩ := made_rep (c := c) m hd hx (Nat.ne_of_lt (Nat.lt_succ_self _))
    have I2 := Inv.made (C := T.cA c) I
    obtain ⟨us', vs', b1, b2, b3⟩ := B.use (s := { s with heap := (s.heap.push PySem.W.emptyDict).push (PySem.W.instObj (T.cA c) s.heap.objs.size) }) (us := .ref (s.heap.objs.size + 1) :: us) (vs := .ref (s.heap.objs.size + 1) :: vs) (by rw [← hK]; exact I2.kIn) (.cons rfl r) rz (by simpa using l1) l2 (.cons q2 (q.mono l)) ha
    refine wpAny_call (make_map (f := f) I.kIn (by rw [hK]; exact Mk.makes) (by rw [hK]; exact Mk.init) (by rw [hK]; exact beq_iff_eq.mp Mk.fn) (codeAny_mono (F.run _ X.stack _ _ ⟨Value.ref (s.heap.objs.size + 1) :: us, ks.zip ws⟩ us' vs' (fun v H3 => v = .non ∧ Q (.ref (s.heap.objs.size + 1)) H3) (fun cls d H => W cls d σ H) ((hr.mono (by omega : 4 * k + 1 ≤ 4 * k + 3)).make _ us (ks.zip ws)) (make_guards hgd)
      (I2.env0.make _ us (ks.zip ws)) b1 b2 ⟨by rw [← b3.length, argsOf_len ha, hnp], _, es', _, b3, m2, ?_⟩) fun r s' hq' => ?_))
    · have h : RP T W σ (RepD T) ω ((callN G k i es' (M ++ [.obj c [] []])).bind (madeE own M)) (fun _ _ _ H' v => Q v H') := h
      cases e2 : callN G k i es' (M ++ [.obj c [] []]) with
      | exc y M2 => rw [e2] at h; exact fun ω' H' cls d l' m' x' => h ω' H' cls d (l.trans l') m' x'
      | bad => rw [e2] at h; exact h
      | ok y M2 =>
        rw [e2] at h
        have h : RP T W σ (RepD T) ω (madeE own M y M2) (fun _ _ _ H' v => Q v H') := h
        unfold madeE at h
        intro ω3 H3 v l3 m3 r3
        cases y with
        | non =>
          refine ⟨r3.non_inv, ?_⟩
          cases e3 : M2[M.length]? with
          | none => rw [e3] at h; exact h.elim
          | some ob =>
            rw [e3] at h
            cases ob with
            | obj c' ns fs =>
              have ea : ω3.ρ[M.length]? = some (s.heap.objs.size + 1) := by
                cases q2 with
                | loc z => exact prefix_get l3.ρ z
              cases own with
              | true => exact h ω3 H3 _ (l.trans l3) m3 (.loc ea)
              | false =>
                have h : RP T W σ (RepD T) ω (trunc M (.obj c' ns fs) (M2.set M.length .dead)) (fun _ _ _ H' v => Q v H') := h
                obtain ⟨ω4, l4, m4, r4⟩ := m3.freeze e3 nofun ea
                obtain ⟨_, _, z⟩ := rp_trunc m (l.trans (l3.trans l4)) m4 r4 h
                exact z
            | _ => exact h.elim
        | _ => exact h.elim
    · cases r with
      | error er => exact passAt (W := W) tk σ pins _ _ er s' I2 hq'
      | ok fl =>
        cases fl with
        | ret u =>
          obtain ⟨v, H', I3, rv, ev, q3⟩ := I2.after hq'
          subst ev
          exact ⟨rv, ⟨V.ref (s.heap.objs.size + 1), H', I3, rfl, q3⟩⟩
        | next => exact False.elim hq'
        | brk => exact False.elim hq'
        | cont => exact False.elim hq'
/-- C(e, .., k = v, ..) -/
theorem snd_mk (Mk : Mk T.K (T.cA c) f) (F : DefOk X.prog X.w X.K X.mg X.base (4 * k) f fd ps (spF G T k i np)) (hr : Room (4 * k + 3) X.A) (hgd : X.A.guards = some []) (tk : Takes X W) (hK : X.K = T.K) (hi : G.meth c sInit = some i) (hg : Gl X x) (hm : X.mg x = some (.ref (T.cA c))) (hdb : (x == ("__debug__" : Str)) = false)
    (B : BindP T fd ps (cs.length + 1) ks as) (hnp : as.length = np) (hlen : es.length = cs.length) (hs : noStar es = true) (hcs : cs.all (fun c => !starC c) = true) (hck : ck.all (fun c => !starC c) = true) (hl : ck.length = ks.length) (hn : kws.map (·.arg) = ks.map some)
    (ha : PA X es (tDs T W (feOf G k) cs)) (hkw : PK X kws (tDs T W (feOf G k) ck)) : PE X (.Call (.Name x p) es kws pos) (tD T W (feOf G k) (.mk own c cs ck as)) := by
  refine ⟨fun pins s σ H Q I ⟨ω, L, M, rs, m, h⟩ => ?_⟩
  unfold evE at h
  refine wpAny_Call_Name_kw (ld_glob I hg hm ?_ hdb)
  refine call_with (R := RepD T) (first := []) (g := fun vs us M2 => makeE (feOf G k) own c as (vs ++ us) M2) (by rw [hK]; exact Mk.kp) hlen hs hcs hck hl hn ha hkw I rs m h fun us ws s2 ds es' M2 ω2 H2 vs zs I2 m2 q2 q3 rv rz lu lw l2 r2 => ?_
  exact make_own Mk F hr hgd tk hK hi B I2 rv rz lu lw (q2.append q3) m2 hnp r2
theorem evEs_nil {E : Fe} {L : Loc} {M : Store} : evEs E [] L M = .ok [] M := by rw [evEs]
/-- as two argument lists, the second empty -/
theorem two_lists {E : Fe} {L : Loc} {M : Store} (g : List D → Store → Res D) : ((evEs E cs L M).bind fun vs M1 => g vs M1) = (evEs E cs L M).bind fun vs M1 => (evEs E [] L M1).bind fun us M2 => g (vs ++ us) M2 := by
  congr 1
  funext vs M1
  rw [evEs_nil]
  show g vs M1 = g (vs ++ []) M1
  rw [List.append_nil]
/-- c(e, ..), c a class in a slot -/
theorem snd_mkL (hr : Room (4 * k + 3) X.A) (hgd : X.A.guards = some []) (tk : Takes X W) (hK : X.K = T.K) (hm : ∀ c j, G.meth c sInit = some j → ∃ f fd ps np, L2.Mk T.K (T.cA c) f ∧ DefOk X.prog X.w X.K X.mg X.base (4 * k) f fd ps (spF G T k j np) ∧ as.length = np ∧ BindP T fd ps (cs.length + 1) [] as)
    (hv : PE X (.Name x p) (tVar i)) (hlen : es.length = cs.length) (hs : noStar es = true) (hcs : cs.all (fun c => !starC c) = true)
    (ha : PA X es (tDs T W (feOf G k) cs)) : PE X (.Call (.Name x p) es [] pos) (tD T W (feOf G k) (.mkL own i cs as)) := by
  refine ⟨fun pins s σ H Q I ⟨ω, L, M, rs, m, h⟩ => ?_⟩
  unfold evE at h
  cases el : L[i]? with
  | none => rw [el] at h; exact h.elim
  | some o =>
    rw [el] at h
    cases o with
    | none => exact h.elim
    | some d =>
      cases d with
      | cls c =>
        have h : RP T W σ (RepD T) ω (if ((feOf G k).meth c sInit).isSome then (evEs (feOf G k) cs L M).bind fun vs M1 => makeE (feOf G k) own c as vs M1 else .bad) (fun _ _ _ H' v => Q v H') := h
        obtain ⟨v, e1, e2⟩ := rs.2 i _ el
        obtain rfl : v = .ref (T.cA c) := by cases e2; rfl
        refine wpAny_Call_Name_kw (thn (hv.run pins s σ H (fun v H1 => v = .ref (T.cA c) ∧ H1 = H) I ⟨_, e1, rfl, rfl⟩) ?_)
        rintro u s1 ⟨v, H1, I1, rv, rfl, rfl⟩
        obtain rfl : u = Value.ref (T.cA c) := rv
        cases hi : (feOf G k).meth c sInit with
        | none => rw [hi] at h; exact h.elim
        | some j =>
          obtain ⟨f, fd, ps, np, Mk, F, hnp, B⟩ := hm c j hi
          rw [hi, Option.isSome_some, if_pos rfl, two_lists (fun vs M1 => makeE (feOf G k) own c as vs M1)] at h
          refine call_with (R := RepD T) (first := []) (ks := []) (ck := []) (g := fun vs us M2 => makeE (feOf G k) own c as (vs ++ us) M2) (by rw [hK]; exact Mk.kp) hlen hs hcs rfl rfl rfl ha snd_knil I1 rs m h fun us ws s2 ds es' M2 ω2 H2 vs zs I2 m2 q2 q3 rv rz lu lw l2 r2 => ?_
          exact make_own Mk F hr hgd tk hK hi B I2 rv rz lu lw (q2.append q3) m2 hnp r2
      | _ => exact h.elim
/-- C.m(e, ..), m a class method -/
theorem snd_cmet {m : Str} {C pr g : Addr} {mc : Value} (hr : Room (4 * k + 3) X.A) (hgd : X.A.guards = some []) (tk : Takes X W) (hK : X.K = T.K) (hC : T.cA c = C) (cr : ClX.CRead T.K C mc) (cm : ClX.CMet T.K C mc m pr g)
    (F : DefOk X.prog X.w X.K X.mg X.base (4 * k) g fd ps (spF G T k i np)) (hi : G.cmet c m = some i) (hnp : as.length = np) (B : BindP T fd ps (cs.length + 1) [] as)
    (hg : Gl X x) (hm : X.mg x = some (.ref C)) (hdb : (x == ("__debug__" : Str)) = false) (hline : (apos.endLine == pos.line) = true) (hfew : (e :: es).length + 0 < 30) (hlen : (e :: es).length = cs.length) (hs : noStar (e :: es) = true) (hcs : cs.all (fun c => !starC c) = true)
    (ha : PA X (e :: es) (tDs T W (feOf G k) cs)) : PE X (.Call (.Attribute (.Name x p) m apos) (e :: es) [] pos) (tD T W (feOf G k) (.cmet c m cs as)) := by
  subst hC
  refine ⟨fun pins s σ H Q I ⟨ω, L, M, rs, mm, h⟩ => ?_⟩
  unfold evE at h
  have hi' : (feOf G k).cmet c m = some i := hi
  rw [hi'] at h
  refine PySem.W.methodCall_KW ?_ (meth_tree (ks := []) rfl hline (by simpa using hfew) hs rfl)
  refine ld_glob I hg hm ?_ hdb
  refine ClX.getmethcm_ok I (by rw [hK]; exact cr) (by rw [hK]; exact cm) fun s2 I2 => ?_
  refine ClX.callwith_cm I2 (ClX.base_none I (Nat.le_refl _)) (by rw [hK]; exact cm.fi) ?_ (starEach_c (noStar_cons hs).1) (plain_args (noStar_cons hs).2)
  refine run_args (pos := pos) ha hcs I2 rs mm h fun us s3 ds M1 ω1 H1 vs I3 rs1 m1 q1 rv lu l1 r1 => ⟨⟨ClX.pin_at I3, I3.kIn⟩, ?_⟩
  cases ea : argsOf (.cls c :: ds) as with
  | none => rw [ea] at r1; exact r1.elim
  | some es' =>
    rw [ea] at r1
    obtain ⟨us', vs', b1, b2, b3⟩ := B.use (s := s3) (us := .ref (T.cA c) :: us) (vs := .ref (T.cA c) :: vs) (zs := []) (ws := []) (by rw [← hK]; exact I3.kIn) (.cons rfl rv) .nil (by simpa using lu) rfl (by rw [List.append_nil]; exact .cons (.cls c) q1) ea
    have z : wpAny (model X.prog X.w) X.A (call (.ref s.heap.objs.size) us) (EP X ((s.heap.objs.size, PySem.W.methodObj (.ref g) (.ref (T.cA c))) :: pins) σ Q) X.xe s3 := by
      refine wpAny_call (PySem.W.method_call (ClX.pin_at I3) ?_)
      refine codeAny_mono (F.run X.A X.stack s3 H1 ⟨.ref (T.cA c) :: us, []⟩ us' vs' Q (fun cls d H => W cls d σ H) (hr.mono (by omega)) hgd I3.env0 b1 b2 ⟨by rw [← b3.length, argsOf_len ea, hnp], ω1, es', M1, b3, m1, ?_⟩) fun r s' hq => ?_
      · have r1 : RP T W σ (RepD T) ω1 (callN G k i es' M1) (fun _ _ _ H' v => Q v H') := r1
        cases e3 : callN G k i es' M1 with
        | ok a M' => rw [e3] at r1; exact r1
        | exc x M' => rw [e3] at r1; exact r1
        | bad => rw [e3] at r1; exact r1
      · cases r with
        | error e => exact passAt (W := W) tk σ _ H1 s3 e s' I3 hq
        | ok fl =>
          cases fl with
          | ret u => exact I3.after hq
          | next => exact False.elim hq
          | brk => exact False.elim hq
          | cont => exact False.elim hq
    exact thn z fun _ _ y => ClX.unpinE y
end
end Lc
end

section
set_option autoImplicit false
set_option linter.all false
set_option Elab.async false
set_option maxRecDepth 100000
/-! Lc: targets, what is walked. -/
namespace Lc
open PySem L2 PySem.Spec PyProof.Rows

/-- an item as it comes -/
def YldOk (T : Tx) (ω : Wd) (M : Store) (H : Hp) (p : Pat) (d : D) (x : V) : Prop := match p with
  | .v _ => RepD T ω d x
  | .t _ => ∀ xs, view M d = .tup xs → ∃ a vs, x = .ref a ∧ SqT T.K H a vs ∧ RepL T ω xs vs
theorem yld_of {T : Tx} {ω : Wd} {M : Store} {H : Hp} {p : Pat} {d : D} {x : V} (m : RepM T ω M H) (r : RepD T ω d x) : YldOk T ω M H p d x := by
  cases p with
  | v i => exact r
  | t ps => exact fun xs e => m.tup r e
/-- σ' differs from σ only at the places vs -/
structure Off (vs : List Nat) (σ σ' : L2.St) : Prop where
  len : σ'.length = σ.length
  at_ : ∀ i, i ∉ vs → σ'[i]? = σ[i]?
theorem Off.refl (vs : List Nat) (σ : L2.St) : Off vs σ σ := ⟨rfl, fun _ _ => rfl⟩
theorem Off.trans {a b c : L2.St} {vs ws us : List Nat} (h : Off vs a b) (k : Off ws b c) (h1 : ∀ i ∈ vs, i ∈ us) (h2 : ∀ i ∈ ws, i ∈ us) : Off us a c := ⟨k.len.trans h.len, fun i hi => (k.at_ i fun z => hi (h2 i z)).trans (h.at_ i fun z => hi (h1 i z))⟩
theorem wipe_at {σ : L2.St} {i : Nat} : ∀ {vs : List Nat}, i ∈ vs → i < σ.length → (L2.wipe σ vs)[i]? = some none
  | v :: vs, h, hl => by
    unfold L2.wipe
    by_cases hv : v = i
    · subst hv
      exact List.getElem?_set_self (by rw [L2.wipe_length]; exact hl)
    · rw [List.getElem?_set_ne hv]
      rcases List.mem_cons.mp h with z | z
      · exact absurd z.symm hv
      · exact wipe_at z hl
theorem Off.wipe {vs us : List Nat} {σ σ' : L2.St} (o : Off vs σ σ') (h : ∀ i ∈ vs, i ∈ us) : L2.wipe σ' us = L2.wipe σ us := by
  apply List.ext_getElem?
  intro i
  by_cases hi : i ∈ us
  · by_cases hl : i < σ.length
    · rw [wipe_at hi (by rw [o.len]; exact hl), wipe_at hi hl]
    · rw [List.getElem?_eq_none (by rw [L2.wipe_length, o.len]; omega), List.getElem?_eq_none (by rw [L2.wipe_length]; omega)]
  · rw [wipe_out hi, wipe_out hi]
    exact o.at_ i fun z => hi (h i z)
/-- a target's reading -/
def gP (T : Tx) (p : Pat) : TG := fun v σ H Q => ∃ (ω : Wd) (L : Loc) (M : Store) (d : D), RepS T ω L σ ∧ RepM T ω M H ∧ YldOk T ω M H p d v ∧ ∃ L1, Pat.set p d M L = some L1 ∧ ∀ σ', RepS T ω L1 σ' → Off p.vars σ σ' → Q σ' H
def gPs (T : Tx) (ps : List Pat) : TGs := fun vs σ H Q => ∃ (ω : Wd) (L : Loc) (M : Store) (ds : List D), RepS T ω L σ ∧ RepM T ω M H ∧ RepL T ω ds vs ∧ ∃ L1, Pat.setL ps ds M L = some L1 ∧ ∀ σ', RepS T ω L1 σ' → Off (Pat.varsL ps) σ σ' → Q σ' H
theorem _root_.L2.PG.imp {X : Cx} {e : Expr} {t t' : TG} (h : PG X e t) (k : ∀ v σ H Q, t' v σ H Q → t v σ H Q) : PG X e t' := ⟨fun pins s σ H v u Q I r q => h.run pins s σ H v u Q I r (k v σ H Q q)⟩
theorem _root_.L2.PGs.imp {X : Cx} {e : List Expr} {t t' : TGs} (h : PGs X e t) (k : ∀ v σ H Q, t' v σ H Q → t v σ H Q) : PGs X e t' := ⟨fun pins s σ H v u Q I r q => h.run pins s σ H v u Q I r (k v σ H Q q)⟩
section
variable {X : Cx} {T : Tx} {pos : Pos}
theorem snd_pv {i : Nat} {x : Str} (hN : X.N.Nodup) (hi : X.N[i]? = some x) (hx : L2.Loc X.env.scope x) (hf : X.fn x = true ∨ X.env.scope.names.lookup x = some .local) : PG X (.Name x pos) (gP T (.v i)) :=
  (pg_name hN hi hx hf).imp fun v σ H Q ⟨ω, L, M, d, s, m, y, L1, e, k⟩ => by
    simp only [Pat.set, Option.some.injEq] at e
    subst e
    refine k _ (s.set i y) ⟨by rw [List.length_set], fun j hj => ?_⟩
    simp only [Pat.vars, List.mem_singleton] at hj
    exact List.getElem?_set_ne (fun z => hj z.symm)
theorem setL_len : ∀ {ps : List Pat} {ds : List D} {M : Store} {L L1 : Loc}, Pat.setL ps ds M L = some L1 → ps.length = ds.length
  | [], [], _, _, _, _ => rfl
  | [], _ :: _, _, _, _, h => by simp [Pat.setL] at h
  | _ :: _, [], _, _, _, h => by simp [Pat.setL] at h
  | p :: ps, d :: ds, M, L, L1, h => by
    simp only [Pat.setL] at h
    cases q : Pat.set p d M L with
    | none => rw [q] at h; cases h
    | some L2 =>
      rw [q] at h
      rw [List.length_cons, List.length_cons, setL_len h]
theorem snd_pt {es : List Expr} {ps : List Pat} {k : Nat} (hK : X.K = T.K) (hc : X.calm = true) (h : PGs X es (gPs T ps)) (hl : es.length = ps.length) (hs : noStar es = true) : PG X (.Tuple es k pos) (gP T (.t ps)) := by
  have e1 : (assignEach es X.env).length = ps.length ∧ (assignEach es X.env).findIdx? (·.1) = none := by
    rw [← hl]
    clear h hl
    induction es with
    | nil => exact ⟨rfl, rfl⟩
    | cons e es ih =>
      have hs' := noStar_cons hs
      obtain ⟨i1, i2⟩ := ih hs'.2
      have e0 : assignEach (e :: es) X.env = (false, assign e X.env) :: assignEach es X.env := by
        cases e <;> first | rfl | cases hs'.1
      rw [e0]
      refine ⟨by rw [List.length_cons, List.length_cons, i1], ?_⟩
      rw [List.findIdx?_cons]
      simp [i2]
  refine (pg_tup (n := ps.length) hc h e1.1 e1.2).imp fun v σ H Q ⟨ω, L, M, d, s, m, y, L1, e, k⟩ => ?_
  simp only [Pat.set] at e
  cases q : view M d with
  | tup xs =>
    rw [q] at e
    obtain ⟨a, vs, rfl, h1, h2⟩ := y xs q
    exact ⟨a, vs, rfl, by rw [hK]; exact h1, by rw [← h2.length, setL_len e], ω, L, M, xs, s, m, h2, L1, e, fun σ' r o => k σ' r o⟩
  | _ => rw [q] at e; cases e
theorem snd_pnil : PGs X [] (gPs T []) := pgs_nil.imp fun v σ H Q ⟨ω, L, M, ds, s, m, r, L1, e, k⟩ => by
  cases r with
  | cons _ _ => simp [Pat.setL] at e
  | nil =>
    simp only [Pat.setL, Option.some.injEq] at e
    subst e
    exact ⟨rfl, k σ s (Off.refl _ _)⟩
theorem snd_pcons {e : Expr} {es : List Expr} {p : Pat} {ps : List Pat} (hs : star1 e = false) (h1 : PG X e (gP T p)) (h2 : PGs X es (gPs T ps)) : PGs X (e :: es) (gPs T (p :: ps)) := by
  have e0 : assignEach (e :: es) X.env = (false, assign e X.env) :: assignEach es X.env := by
    cases e <;> first | rfl | cases hs
  refine (pgs_cons h1 h2 (by rw [e0]; rfl)).imp fun v σ H Q ⟨ω, L, M, ds, s, m, r, L1, e, k⟩ => ?_
  cases r with
  | nil => simp [Pat.setL] at e
  | @cons d ds v vs r t =>
    simp only [Pat.setL] at e
    cases q : Pat.set p d M L with
    | none => rw [q] at e; cases e
    | some L2 =>
      rw [q] at e
      refine ⟨v, vs, rfl, ω, L, M, d, s, m, yld_of m r, L2, q, fun σ' r' o' => ⟨ω, L2, M, ds, r', m, t, L1, e, fun σ'' r'' o'' => k σ'' r'' ?_⟩⟩
      exact o'.trans o'' (fun i hi => by simp only [Pat.varsL, List.mem_append]; exact .inl hi) (fun i hi => by simp only [Pat.varsL, List.mem_append]; exact .inr hi)
end

/-! ### what is walked -/
def WalkOk (T : Tx) (ω0 : Wd) (p : Pat) (xs : List D) (st : Store → Bool) (J : It) : Prop :=
  ∀ (ω : Wd) (M : Store) (H : Hp) (i : Nat), Le ω0 ω → RepM T ω M H → st M = true → (xs.length ≤ i → J.stop i H) ∧ ∀ d, xs[i]? = some d → J.go i H ∧ ∀ x H', J.yld i H x H' → RepM T ω M H' ∧ YldOk T ω M H' p d x
def tI (T : Tx) (W : WX) (E : Fe) (p : Pat) (ce : CE) : TI := fun σ H R => ∃ (ω : Wd) (L : Loc) (M : Store), RepS T ω L σ ∧ RepM T ω M H ∧ RP T W σ RU ω (evE E ce L M) fun d M1 ω1 H1 _ => ∃ xs, items M1 d = some xs ∧
  ∀ J H2, RepM T ω1 M1 H2 → WalkOk T ω1 p xs (still M1 d) J → R J H2
theorem _root_.L2.PI.imp {X : Cx} {tg e : Expr} {t t' : TI} (h : PI X tg e t) (k : ∀ σ H R, t' σ H R → t σ H R) : PI X tg e t' := ⟨fun pins s σ H R I q => h.run pins s σ H R I (k σ H R q)⟩
section
variable {T : Tx} {W : WX} {E : Fe} {X : Cx} {pos p0 : Pos} {tg e e2 : Expr} {ce c2 : CE} {p : Pat} {σ : L2.St} {ω : Wd} {M : Store} {H : Hp}
theorem walk_items {d : D} {v : V} {xs : List D} (m : RepM T ω M H) (r : RepD T ω d v) (h : items M d = some xs) : ∃ a vs, v = .ref a ∧ ((SqL T.K H a vs ∧ WalkOk T ω p xs (still M d) (Itl T.K a)) ∨ (SqT T.K H a vs ∧ WalkOk T ω p xs (still M d) (Itt T.K a))) := by
  have fin : ∀ {ω' : Wd} {M' : Store} {H' : Hp} {vs : List V} {i : Nat} {d : D} {x : V}, RepM T ω' M' H' → RepL T ω' xs vs → xs[i]? = some d → vs[i]? = some x → YldOk T ω' M' H' p d x := fun m' r' e1 e2 => by
    obtain ⟨v, k1, k2⟩ := r'.get e1
    rw [e2] at k1
    cases k1
    exact yld_of m' k2
  unfold items at h
  cases r with
  | @lst a xs' vs h1 h2 =>
    unfold view at h
    cases h
    refine ⟨a, vs, rfl, .inl ⟨m.F.seq h1, fun ω' M' H' i l m' _ => ⟨fun hi => ⟨vs, m'.F.seq (l.F.seq h1), by rw [← h2.length]; exact hi⟩, fun d e => ?_⟩⟩⟩
    obtain ⟨x, k1, _⟩ := h2.get e
    refine ⟨⟨vs, x, m'.F.seq (l.F.seq h1), k1⟩, fun y H2 z => ?_⟩
    obtain ⟨rfl, z⟩ := z
    exact ⟨m', fin m' (h2.mono l) e (z vs (m'.F.seq (l.F.seq h1)))⟩
  | @tup a xs' vs h1 h2 =>
    unfold view at h
    cases h
    have sq : ∀ {ω' : Wd} {M' : Store} {H' : Hp}, Le ω ω' → RepM T ω' M' H' → SqT T.K H' a vs := fun l m' => ((h1.mono l.F).mono m'.F).sqT
    refine ⟨a, vs, rfl, .inr ⟨sq (Le.refl _) m, fun ω' M' H' i l m' _ => ⟨fun hi => ⟨vs, sq l m', by rw [← h2.length]; exact hi⟩, fun d e => ?_⟩⟩⟩
    obtain ⟨x, k1, _⟩ := h2.get e
    refine ⟨⟨vs, x, sq l m', k1⟩, fun y H2 z => ?_⟩
    obtain ⟨rfl, z⟩ := z
    exact ⟨m', fin m' (h2.mono l) e (z vs (sq l m'))⟩
  | @loc n a h1 =>
    unfold view at h
    simp only at h
    cases q : M[n]? with
    | none => simp [q] at h
    | some o =>
      cases o with
      | lst xs' =>
        simp [q] at h
        subst h
        have get : ∀ {ω' : Wd} {M' : Store} {H' : Hp}, Le ω ω' → RepM T ω' M' H' → still M (.loc n) M' = true → ∃ vs, H' a = some (.lst vs) ∧ RepL T ω' xs' vs := fun {ω' M' H'} l m' st => by
          have e : M'[n]? = M[n]? := of_decide_eq_true st
          obtain ⟨a', k1, _, k2⟩ := m'.at_ n _ (e.trans q) nofun
          rw [prefix_get l.ρ h1] at k1
          cases k1
          cases k2 with
          | lst z1 z2 => exact ⟨_, z1, z2⟩
        obtain ⟨vs, g1, g2⟩ := get (Le.refl _) m (by unfold still; simp)
        refine ⟨a, vs, rfl, .inl ⟨.inl (.inl g1), fun ω' M' H' i l m' st => ?_⟩⟩
        obtain ⟨us, k1, k2⟩ := get l m' st
        refine ⟨fun hi => ⟨us, .inl (.inl k1), by rw [← k2.length]; exact hi⟩, fun d e => ?_⟩
        obtain ⟨x, j1, _⟩ := k2.get e
        refine ⟨⟨us, x, .inl (.inl k1), j1⟩, fun y H2 z => ?_⟩
        obtain ⟨rfl, z⟩ := z
        exact ⟨m', fin m' k2 e (z us (.inl (.inl k1)))⟩
      | _ => simp [q] at h
  | _ => unfold view at h; cases h
/-- over a list, a tuple -/
theorem snd_walk (hK : X.K = T.K) (he : PE X e (tD T W E ce)) : PI X tg e (tI T W E p ce) := by
  refine ⟨fun pins s σ H R I ⟨ω, L, M, rs, m, h⟩ => ?_⟩
  refine thn (he.run pins s σ H (fun v H1 => ∃ d M1 ω1 xs, RepM T ω1 M1 H1 ∧ RepD T ω1 d v ∧ items M1 d = some xs ∧ ∀ J H2, RepM T ω1 M1 H2 → WalkOk T ω1 p xs (still M1 d) J → R J H2) I ⟨ω, L, M, rs, m, ?_⟩) ?_
  · cases q : evE E ce L M with
    | ok d M1 =>
      rw [q] at h
      intro ω1 H1 v l1 m1 r1
      obtain ⟨xs, h1, h2⟩ := h ω1 H1 () l1 m1 trivial
      exact ⟨d, M1, ω1, xs, m1, r1, h1, h2⟩
    | exc x M1 => rw [q] at h; exact h
    | bad => rw [q] at h; exact h
  · rintro u s1 ⟨v, H1, I1, rv, d, M1, ω1, xs, m1, r1, e1, k⟩
    obtain ⟨a, vs, rfl, w⟩ := walk_items (p := p) m1 r1 e1
    obtain rfl : u = Value.ref a := rv
    rw [← hK] at w
    rcases w with ⟨w1, w2⟩ | ⟨w1, w2⟩
    · obtain ⟨its, rv, pp, hz⟩ := I1.list w1
      refine wpAny_pyIter_list pp.isList ?_
      refine ⟨s1.heap.objs.size, [s1.heap.objs.size], _, _, H1, rfl, I1.kept (t' := s1.toks) fun b o e => Heap.get?_push_of_some _ e, turn_list a _, ⟨_, Heap.get?_push_size _ rfl, rfl, rfl⟩, fun b hb => ?_, k _ H1 m1 w2⟩
      have e : b = s1.heap.objs.size := by simpa using hb
      subst e
      exact I1.fpOk (Nat.le_refl _) (I1.hok.fresh (Nat.le_refl _))
    · obtain ⟨its, rv, pp, hz⟩ := I1.tuple w1
      refine wpAny_pyIter_tuple (show s1.heap.IsTuple a its.toArray from pp) ?_
      refine ⟨s1.heap.objs.size, [s1.heap.objs.size], _, _, H1, rfl, I1.kept (t' := s1.toks) fun b o e => Heap.get?_push_of_some _ e, turn_tuple a _, ⟨_, Heap.get?_push_size _ rfl, rfl, rfl⟩, fun b hb => ?_, k _ H1 m1 w2⟩
      have e : b = s1.heap.objs.size := by simpa using hb
      subst e
      exact I1.fpOk (Nat.le_refl _) (I1.hok.fresh (Nat.le_refl _))
theorem rangeD_at : ∀ (n : Nat) (lo : Int) (i : Nat), (rangeD lo n)[i]? = if i < n then some (.int (lo + i)) else none
  | 0, lo, i => by simp [rangeD]
  | n + 1, lo, 0 => by simp [rangeD]
  | n + 1, lo, i + 1 => by
    rw [rangeD, List.getElem?_cons_succ, rangeD_at n (lo + 1) i]
    by_cases h : i < n
    · rw [if_pos h, if_pos (by omega)]
      congr 2
      omega
    · rw [if_neg h, if_neg (by omega)]
theorem rangeD_len : ∀ (n : Nat) (lo : Int), (rangeD lo n).length = n
  | 0, _ => rfl
  | n + 1, lo => by rw [rangeD, List.length_cons, rangeD_len n]
theorem walk_range {lo : Int} {n i : Nat} {st : Store → Bool} : WalkOk T ω (.v i) (rangeD lo n) st (Itr lo n) := fun ω' M' H' i l m' _ => ⟨fun hi => by rw [rangeD_len] at hi; exact hi, fun d e => by
  rw [rangeD_at] at e
  by_cases h : i < n
  · rw [if_pos h] at e
    cases e
    refine ⟨h, fun x H2 z => ?_⟩
    obtain ⟨rfl, rfl⟩ := z
    exact ⟨m', .int _⟩
  · rw [if_neg h] at e
    cases e⟩
theorem snd_range1 {i : Nat} {a : Expr} {ca : CE} (hg : Gl X "range") (hm : X.mg "range" = none) (hs : star1 a = false) (hc : starC ca = false) (ha : PA X [a] (tDs T W E [ca])) : PI X tg (.Call (.Name "range" p0) [a] [] pos) (tI T W E (.v i) (.rng [ca])) :=
  (pi_range1 hg hm ha (starEach_c hs)).imp fun σ H R ⟨ω, L, M, s, m, h⟩ => by
    unfold evE at h
    refine ⟨ω, L, M, s, m, (RP.bind (R := RepL T) h).imp fun ds M1 ω1 H1 vs l1 m1 q1 e1 r1 => ?_⟩
    have hl := evEs_len (by simp [hc]) e1
    match ds, hl, q1, r1 with
    | [d], _, q1, r1 =>
      cases d with
      | int n =>
        obtain ⟨v, rfl, rv⟩ := rep1 q1 rfl
        obtain rfl := rv.int_inv
        by_cases c : n < 2 ^ 62 ∧ -(2 ^ 62) ≤ n
        · simp only [c, and_self, if_true] at r1
          obtain ⟨xs, h1, h2⟩ := r1 ω1 H1 () (Le.refl _) m1 trivial
          simp only [items, view, Option.some.injEq] at h1
          subst h1
          exact ⟨n, rfl, c.2, c.1, h2 _ H1 m1 walk_range⟩
        · simp only [c, if_false] at r1
          exact r1.elim
      | _ => exact r1.elim
theorem snd_range2 {i : Nat} {a b : Expr} {ca cb : CE} (hg : Gl X "range") (hm : X.mg "range" = none) (hs : star1 a = false) (hs2 : star1 b = false) (hc : starC ca = false) (hc2 : starC cb = false) (ha : PA X [a, b] (tDs T W E [ca, cb])) : PI X tg (.Call (.Name "range" p0) [a, b] [] pos) (tI T W E (.v i) (.rng [ca, cb])) :=
  (pi_range2 hg hm ha (by rw [starEach_c hs, starEach_c hs2]; rfl) (starEach_c hs2)).imp fun σ H R ⟨ω, L, M, s, m, h⟩ => by
    unfold evE at h
    refine ⟨ω, L, M, s, m, (RP.bind (R := RepL T) h).imp fun ds M1 ω1 H1 vs l1 m1 q1 e1 r1 => ?_⟩
    have hl := evEs_len (by simp [hc, hc2]) e1
    match ds, hl, q1, r1 with
    | [d, d'], _, q1, r1 =>
      cases d with
      | int n =>
        cases d' with
        | int n' =>
          obtain ⟨v, v', rfl, rv, rv'⟩ := rep2 q1 rfl
          obtain rfl := rv.int_inv
          obtain rfl := rv'.int_inv
          by_cases c : n < 2 ^ 62 ∧ -(2 ^ 62) ≤ n ∧ n' < 2 ^ 62 ∧ -(2 ^ 62) ≤ n'
          · simp only [c, and_self, if_true] at r1
            obtain ⟨xs, h1, h2⟩ := r1 ω1 H1 () (Le.refl _) m1 trivial
            simp only [items, view, Option.some.injEq] at h1
            subst h1
            exact ⟨n, n', rfl, ⟨c.2.1, c.1, c.2.2.2, c.2.2.1⟩, h2 _ H1 m1 walk_range⟩
          · simp only [c, if_false] at r1
            exact r1.elim
        | _ => exact r1.elim
      | _ => exact r1.elim
theorem enumD_at : ∀ (xs : List D) (k : Int) (i : Nat), (enumD k xs)[i]? = (xs[i]?).map fun x => .tup [.int (k + i), x]
  | [], k, i => by simp [enumD]
  | x :: xs, k, 0 => by simp [enumD]
  | x :: xs, k, i + 1 => by
    rw [enumD, List.getElem?_cons_succ, List.getElem?_cons_succ, enumD_at xs (k + 1) i]
    congr 1
    funext x
    congr 3
    omega
theorem enumD_len : ∀ (xs : List D) (k : Int), (enumD k xs).length = xs.length
  | [], _ => rfl
  | x :: xs, k => by rw [enumD, List.length_cons, List.length_cons, enumD_len xs]
theorem zipD_at : ∀ (xs ys : List D) (i : Nat), (zipD xs ys)[i]? = match xs[i]?, ys[i]? with | some x, some y => some (.tup [x, y]) | _, _ => none
  | [], ys, i => by simp [zipD]
  | x :: xs, [], i => by
    simp only [zipD, List.getElem?_nil]
    cases (x :: xs)[i]? <;> rfl
  | x :: xs, y :: ys, 0 => by simp [zipD]
  | x :: xs, y :: ys, i + 1 => by
    rw [zipD, List.getElem?_cons_succ, List.getElem?_cons_succ, List.getElem?_cons_succ, zipD_at xs ys i]
theorem zipD_len : ∀ (xs ys : List D), (zipD xs ys).length = min xs.length ys.length
  | [], ys => by simp [zipD]
  | x :: xs, [] => by simp [zipD]
  | x :: xs, y :: ys => by rw [zipD, List.length_cons, List.length_cons, List.length_cons, zipD_len xs ys]; omega
theorem yld_pair {ω' : Wd} {M' : Store} {H' : Hp} {ps : List Pat} {d1 d2 : D} {x1 x2 : V} {a : Addr} (h : H' a = some (.tup [x1, x2])) (r1 : RepD T ω' d1 x1) (r2 : RepD T ω' d2 x2) : YldOk T ω' M' H' (.t ps) (.tup [d1, d2]) (.ref a) := fun xs e => by
  cases e
  exact ⟨a, [x1, x2], rfl, .inl (.inl h), .cons r1 (.cons r2 .nil)⟩
theorem snd_enum {a : Expr} {ca : CE} {elts : List Expr} {kk : Nat} {tpos : Pos} {ps : List Pat} (hK : X.K = T.K) (hg : Gl X "enumerate") (hm : X.mg "enumerate" = none) (hs : star1 a = false) (hc : starC ca = false) (ha : PA X [a] (tDs T W E [ca])) :
    PI X (.Tuple elts kk tpos) (.Call (.Name "enumerate" p0) [a] [] pos) (tI T W E (.t ps) (.enum ca)) :=
  (pi_enum hg hm ha (starEach_c hs)).imp fun σ H R ⟨ω, L, M, s, m, h⟩ => by
    unfold evE at h
    have e0 : evEs E [ca] L M = (evE E ca L M).bind fun x M1 => .ok [x] M1 := by
      rw [evEs_c hc]
      congr 1
    refine ⟨ω, L, M, s, m, ?_⟩
    rw [e0]
    cases q : evE E ca L M with
    | exc x M1 => rw [q] at h; exact h
    | bad => rw [q] at h; exact h
    | ok d M1 =>
      rw [q] at h
      intro ω1 H1 vs l1 m1 q1
      obtain ⟨v, rfl, rv⟩ := rep1 q1 rfl
      cases rv with
      | @lst a xs ws h1 h2 =>
        obtain ⟨ys, k1, k2⟩ := h ω1 H1 () l1 m1 trivial
        simp only [items, view, Option.some.injEq] at k1
        subst k1
        rw [hK]
        refine ⟨a, ws, rfl, m1.F.seq h1, k2 _ H1 m1 fun ω2 M2 H2 i l2 m2 _ => ?_⟩
        have sq := m2.F.seq (l2.F.seq h1)
        refine ⟨fun hi => ⟨ws, sq, by rw [← h2.length]; rw [enumD_len] at hi; exact hi⟩, fun d e => ?_⟩
        rw [enumD_at] at e
        cases q2 : xs[i]? with
        | none => rw [q2] at e; cases e
        | some y =>
          rw [q2] at e
          cases e
          obtain ⟨w, j1, j2⟩ := h2.get q2
          refine ⟨⟨ws, w, sq, j1⟩, fun x H3 z => ?_⟩
          obtain ⟨t, x', rfl, z1, rfl, z2⟩ := z
          have := z2 ws sq
          rw [j1] at this
          cases this
          refine ⟨m2.heap z1, yld_pair (upd_same ..) ?_ (j2.mono l2)⟩
          rw [Int.zero_add]
          exact .int _
      | _ => exact h.elim
theorem snd_zip {a b : Expr} {ca cb : CE} {elts : List Expr} {kk : Nat} {tpos : Pos} {ps : List Pat} (hK : X.K = T.K) (hg : Gl X "zip") (hm : X.mg "zip" = none) (hs : star1 a = false) (hs2 : star1 b = false) (hc : starC ca = false) (hc2 : starC cb = false) (ha : PA X [a, b] (tDs T W E [ca, cb])) :
    PI X (.Tuple elts kk tpos) (.Call (.Name "zip" p0) [a, b] [] pos) (tI T W E (.t ps) (.zip ca cb)) :=
  (RZ.pi_zipA hg hm ha (starEach_c hs) (by rw [starEach_c hs2]; rfl)).imp fun σ H R ⟨ω, L, M, s, m, h⟩ => by
    unfold evE at h
    have e0 : evEs E [ca, cb] L M = (evE E ca L M).bind fun x M1 => (evE E cb L M1).bind fun y M2 => .ok [x, y] M2 := by
      rw [evEs_c hc]
      congr 1
      funext x M1
      rw [evEs_c hc2, res_bind_assoc]
      congr 1
    refine ⟨ω, L, M, s, m, ?_⟩
    rw [e0]
    cases q : evE E ca L M with
    | exc x M1 => rw [q] at h; exact h
    | bad => rw [q] at h; exact h
    | ok dx M1 =>
      rw [q] at h
      simp only [Res.bind_ok] at h ⊢
      cases q2 : evE E cb L M1 with
      | exc x M1 => rw [q2] at h; exact h
      | bad => rw [q2] at h; exact h
      | ok dy M2 =>
        rw [q2] at h
        simp only [Res.bind_ok] at h ⊢
        intro ω1 H1 vs l1 m1 q1
        obtain ⟨v, v', rfl, rv, rv'⟩ := rep2 q1 rfl
        -- the pairs, from either kind
        have fin : ∀ {xs ys : List D} {ws us : List V} {ω2 : Wd} {M3 : Store} {H2 : Hp} {i : Nat} {d : D}, RepM T ω2 M3 H2 → RepL T ω2 xs ws → RepL T ω2 ys us → (zipD xs ys)[i]? = some d → ∃ w u, ws[i]? = some w ∧ us[i]? = some u ∧ ∀ t, H2 t = none → RepM T ω2 M3 (upd H2 t (.tup [w, u])) ∧ YldOk T ω2 M3 (upd H2 t (.tup [w, u])) (.t ps) d (.ref t) := fun {xs ys ws us ω2 M3 H2 i d} m2 r1 r2 e => by
          rw [zipD_at] at e
          cases z1 : xs[i]? with
          | none => rw [z1] at e; cases e
          | some a =>
            cases z2 : ys[i]? with
            | none => rw [z1, z2] at e; cases e
            | some b =>
              rw [z1, z2] at e
              cases e
              obtain ⟨w, j1, j2⟩ := r1.get z1
              obtain ⟨u, j3, j4⟩ := r2.get z2
              exact ⟨w, u, j1, j3, fun t ht => ⟨m2.heap ht, yld_pair (upd_same ..) j2 j4⟩⟩
        rw [hK]
        cases rv with
        | @lst a xs ws h1 h2 =>
          cases rv' with
          | @lst b ys us h3 h4 =>
            obtain ⟨zs, k1, k2⟩ := h ω1 H1 () l1 m1 trivial
            simp only [items, view, Option.some.injEq] at k1
            subst k1
            refine ⟨a, b, ws, us, rfl, .inl ⟨m1.F.seq h1, m1.F.seq h3, k2 _ H1 m1 fun ω2 M3 H2 i l2 m2 _ => ?_⟩⟩
            have s1 := m2.F.seq (l2.F.seq h1)
            have s2 := m2.F.seq (l2.F.seq h3)
            have n1 := h2.length
            have n2 := h4.length
            refine ⟨fun hi => ⟨ws, us, s1, s2, by rw [zipD_len] at hi; omega⟩, fun d e => ?_⟩
            obtain ⟨w, u, j1, j2, j3⟩ := fin m2 (h2.mono l2) (h4.mono l2) e
            refine ⟨⟨ws, us, w, u, s1, s2, j1, j2⟩, fun x H3 z => ?_⟩
            obtain ⟨t, x', y', rfl, z1, rfl, z2, z3⟩ := z
            have e1 := z2 ws s1
            have e2 := z3 us s2
            rw [j1] at e1
            rw [j2] at e2
            cases e1
            cases e2
            exact j3 t z1
          | _ => exact h.elim
        | @tup a xs ws h1 h2 =>
          cases rv' with
          | @tup b ys us h3 h4 =>
            obtain ⟨zs, k1, k2⟩ := h ω1 H1 () l1 m1 trivial
            simp only [items, view, Option.some.injEq] at k1
            subst k1
            refine ⟨a, b, ws, us, rfl, .inr ⟨(h1.mono m1.F).sqT, (h3.mono m1.F).sqT, k2 _ H1 m1 fun ω2 M3 H2 i l2 m2 _ => ?_⟩⟩
            have s1 := ((h1.mono l2.F).mono m2.F).sqT
            have s2 := ((h3.mono l2.F).mono m2.F).sqT
            have n1 := h2.length
            have n2 := h4.length
            refine ⟨fun hi => ⟨ws, us, s1, s2, by rw [zipD_len] at hi; omega⟩, fun d e => ?_⟩
            obtain ⟨w, u, j1, j2, j3⟩ := fin m2 (h2.mono l2) (h4.mono l2) e
            refine ⟨⟨ws, us, w, u, s1, s2, j1, j2⟩, fun x H3 z => ?_⟩
            obtain ⟨t, x', y', rfl, z1, rfl, z2, z3⟩ := z
            have e1 := z2 ws s1
            have e2 := z3 us s2
            rw [j1] at e1
            rw [j2] at e2
            cases e1
            cases e2
            exact j3 t z1
          | _ => exact h.elim
        | _ => exact h.elim
end
end Lc
end

section
set_option autoImplicit false
set_option linter.all false
set_option Elab.async false
set_option maxRecDepth 100000
/-! Lc: list comprehensions. -/
namespace Lc
open PySem L2 PySem.Spec PyProof.Rows

abbrev WF : WX := fun _ _ _ _ => False
/-- a clause's tests by the interpreter -/
def tTs (T : Tx) (E : Fe) (cs : List CE) : TT := fun σ H Q => ∃ (ω : Wd) (L : Loc) (M : Store), RepS T ω L σ ∧ RepM T ω M H ∧ RP T WF σ RB ω (evIfs E cs L M) fun b _ _ H' _ => Q b H'
theorem _root_.L2.PTs.imp {X : Cx} {e : List Expr} {t t' : TT} (h : PTs X e t) (k : ∀ σ H Q, t' σ H Q → t σ H Q) : PTs X e t' := ⟨fun pins s σ H Q I q => h.run pins s σ H Q I (k σ H Q q)⟩
theorem noexc_ok {α : Type} (a : α) (M : Store) : noexc (.ok a M) = .ok a M := rfl
theorem noexc_trunc (M1 M2 : Store) (v : D) : noexc (trunc M1 v M2) = trunc M1 v M2 := by
  unfold trunc
  split <;> rfl
section
variable {T : Tx} {W : WX} {E : Fe} {X : Cx} {pos p0 : Pos} {ω : Wd} {M : Store} {H : Hp}
theorem snd_ifs0 : PTs X [] (tTs T E []) := pts_nil.imp fun σ H Q ⟨ω, L, M, s, m, h⟩ => by
  rw [evIfs] at h
  exact h ω H () (Le.refl _) m trivial
theorem snd_ifs1 {c : Expr} {cc : CE} (h : PT X c (tT T WF E cc)) : PTs X [c] (tTs T E [cc]) := (pts_one h).imp fun σ H Q ⟨ω, L, M, s, m, h⟩ => by
  refine ⟨ω, L, M, s, m, ?_⟩
  rw [evIfs] at h
  unfold evT truthR
  cases q : evE E cc L M with
  | exc x M1 => rw [q] at h; exact h
  | bad => rw [q] at h; exact h
  | ok x M1 =>
    rw [q] at h
    simp only [Res.bind_ok] at h ⊢
    cases q2 : truth M1 x with
    | none => rw [q2] at h; exact h
    | some b =>
      rw [q2] at h
      cases b with
      | true => simp only [evIfs] at h; exact h
      | false => exact h
/-- an item put behind a list of the store -/
theorem push_rep {n : Nat} {D0 : Addr} {y : D} {v : V} {acc : List D} (m : RepM T ω M H) (hn : ω.ρ[n]? = some D0) (r : RepD T ω y v) (q : M[n]? = some (.lst acc)) (hz : acc.length < line) :
    ∃ us, H D0 = some (.lst us) ∧ us.length < sizeLine ∧ RepM T ω (M.set n (.lst (acc ++ [y]))) (upd H D0 (.lst (us ++ [v]))) := by
  obtain ⟨a, h1, _, h2⟩ := m.at_ n _ q nofun
  rw [hn] at h1
  cases h1
  cases h2 with
  | @lst _ us k1 k2 => exact ⟨us, k1, by rw [← k2.length]; exact hz, m.write q nofun hn (.lst (upd_same ..) (k2.append (.cons r .nil)))⟩
theorem still_app {d : D} {xs : List D} {M1 M2 : Store} (h : items M1 d = some xs) : still M1 d (M1 ++ M2) = true := by
  unfold still
  cases d with
  | loc n =>
    simp only
    refine decide_eq_true ?_
    have hl : n < M1.length := by
      unfold items view at h
      cases q : M1[n]? with
      | none => simp [q] at h
      | some o => exact (List.getElem?_eq_some_iff.mp q).1
    rw [List.getElem?_append_left hl]
  | _ => rfl
theorem still_self {d : D} {M1 : Store} : still M1 d M1 = true := by
  unfold still
  cases d <;> simp
theorem wipe_wipe (σ : L2.St) (vs : List Nat) : L2.wipe (L2.wipe σ vs) vs = L2.wipe σ vs := by
  apply List.ext_getElem?
  intro i
  by_cases hi : i ∈ vs
  · by_cases hl : i < σ.length
    · rw [wipe_at hi (by rw [L2.wipe_length]; exact hl), wipe_at hi hl]
    · rw [List.getElem?_eq_none (by rw [L2.wipe_length, L2.wipe_length]; omega), List.getElem?_eq_none (by rw [L2.wipe_length]; omega)]
  · rw [wipe_out hi]
/-- the list made -/
theorem rp_done {σ : L2.St} {Q : VK} {ω1 ω' : Wd} {M1 M' : Store} {H1 H' : Hp} {D0 : Addr} {ow : Bool} (m1 : RepM T ω1 M1 H1) (l : Le ω1 ω') (m : RepM T ω' M' H') (hn : ω'.ρ[M1.length]? = some D0) (h : RP T W σ (RepD T) ω1 (noexc (doneL ow M1 M')) fun _ _ _ H' v => Q v H') : Q (.ref D0) H' := by
  unfold doneL at h
  cases q : M'[M1.length]? with
  | none => rw [q] at h; exact h.elim
  | some o =>
    rw [q] at h
    cases o with
    | lst zs =>
      cases ow with
      | true => exact h ω' H' _ l m (.loc hn)
      | false =>
        have h : RP T W σ (RepD T) ω1 (noexc (trunc M1 (.lst zs) (M'.set M1.length .dead))) (fun _ _ _ H' v => Q v H') := h
        rw [noexc_trunc] at h
        obtain ⟨ω2, l2, m2, r2⟩ := m.freeze q nofun hn
        obtain ⟨_, _, z⟩ := rp_trunc m1 (l.trans l2) m2 r2 h
        exact z
    | _ => exact h.elim
theorem new_rep {D0 : Addr} (m : RepM T ω M H) (n : H D0 = none) : Le ω ⟨ω.F, ω.ρ ++ [D0]⟩ ∧ RepM T ⟨ω.F, ω.ρ ++ [D0]⟩ (M ++ [.lst []]) (upd H D0 (.lst [])) ∧ (ω.ρ ++ [D0])[M.length]? = some D0 := by
  refine ⟨Le.snoc, m.snoc n fun ω' e => .lst (upd_same ..) .nil, ?_⟩
  rw [← m.len, List.getElem?_append_right (Nat.le_refl _), Nat.sub_self]
  rfl
theorem lc_read {ow : Bool} {own : List (Str × Nat)} {p : Pat} {ci ce : CE} {cifs : List CE} (hv : ∀ i ∈ p.vars, i ∈ own.map (·.2)) {σ : L2.St} {H : Hp} {Q : VK} (hh : tD T W E (.comp ow [.mk p ci cifs] (own.map (·.2)) ce) σ H Q) :
    tLc (tI T W E p ci) (gP T p) (tTs T E cifs) (tD T WF E ce) (own.map (·.2)) σ H Q := by
  obtain ⟨ω, L, M, rs, m, h⟩ := hh
  rw [evE, evC] at h
  refine ⟨ω, L, M, rs, m, ?_⟩
  cases q : evE E ci L M with
  | exc x M1 => rw [q] at h; exact h.elim
  | bad => rw [q] at h; exact h.elim
  | ok d M1 =>
    rw [q, Res.bind_ok] at h
    intro ω1 H1 _ l1 m1 _
    cases q2 : items M1 d with
    | none => rw [q2] at h; exact h.elim
    | some xs =>
      rw [q2] at h
      have h := h.le l1
      refine ⟨xs, rfl, fun J H2 m2 wk D0 hD => ?_⟩
      obtain ⟨l2, m3, hn⟩ := new_rep m2 hD
      generalize hf : (fun x M2 => match Pat.set p x M2 (wipeL L (own.map (·.2))) with
        | some L1 => (evIfs E cifs L1 M2).bind fun b M3 => if b then evGs E [] (fun L1 M1 => evE E ce L1 M1) L1 M3 M1.length else .ok () M3
        | none => .bad) = f at h
      have h : RP T W σ (RepD T) ω1 (noexc ((loopE f (still M1 d) xs (M1 ++ [.lst []])).bind fun _ M4 => doneL ow M1 M4)) (fun _ _ _ H' v => Q v H') := h
      refine ⟨fun i mm H => mm = xs.length - i ∧ i ≤ xs.length ∧ ∃ ω' M', Le ⟨ω1.F, ω1.ρ ++ [D0]⟩ ω' ∧ RepM T ω' M' H ∧ still M1 d M' = true ∧ RP T W σ (RepD T) ω1 (noexc ((loopE f (still M1 d) (xs.drop i) M').bind fun _ M4 => doneL ow M1 M4)) (fun _ _ _ H' v => Q v H'), ⟨_, rfl, Nat.zero_le _, _, _, Le.refl _, m3, still_app q2, h⟩, ?_⟩
      rintro i mm H4 ⟨rfl, hi, ω', M', l4, m4, st, h⟩
      have hn' : ω'.ρ[M1.length]? = some D0 := prefix_get l4.ρ hn
      obtain ⟨w1, w2⟩ := wk ω' M' H4 i (l2.trans l4) m4 st
      by_cases hlt : i < xs.length
      · refine .inr ?_
        have ed : xs.drop i = xs[i] :: xs.drop (i + 1) := List.drop_eq_getElem_cons hlt
        rw [ed] at h
        simp only [loopE] at h
        obtain ⟨go, yl⟩ := w2 xs[i] (List.getElem?_eq_getElem hlt)
        refine ⟨go, fun H => xs.length - (i + 1) = xs.length - (i + 1) ∧ i + 1 ≤ xs.length ∧ ∃ ω' M', Le ⟨ω1.F, ω1.ρ ++ [D0]⟩ ω' ∧ RepM T ω' M' H ∧ still M1 d M' = true ∧ RP T W σ (RepD T) ω1 (noexc ((loopE f (still M1 d) (xs.drop (i + 1)) M').bind fun _ M4 => doneL ow M1 M4)) (fun _ _ _ H' v => Q v H'), fun H' z => ⟨_, by omega, z⟩, fun x H5 y => ?_⟩
        obtain ⟨m5, yo⟩ := yl x H5 y
        cases q3 : Pat.set p xs[i] M' (wipeL L (own.map (·.2))) with
        | none =>
          have fx : f xs[i] M' = .bad := by rw [← hf]; simp only [q3]
          rw [fx] at h
          exact h.elim
        | some L1 =>
          have fx : f xs[i] M' = (evIfs E cifs L1 M').bind fun b M3 => if b then evGs E [] (fun L1 M1 => evE E ce L1 M1) L1 M3 M1.length else .ok () M3 := by rw [← hf]; simp only [q3]
          rw [fx] at h
          refine ⟨ω', _, M', xs[i], (rs.mono (l1.trans (l2.trans l4))).wipe _, m5, yo, L1, q3, fun σ2 r2 off => ⟨?_, ω', L1, M', r2, m5, ?_⟩⟩
          · rw [off.wipe hv, wipe_wipe]
          · cases q4 : evIfs E cifs L1 M' with
            | exc x M3 => rw [q4] at h; exact h.elim
            | bad => rw [q4] at h; exact h.elim
            | ok b M3 =>
              rw [q4] at h
              simp only [Res.bind_ok] at h
              intro ω6 H6 _ l6 m6 _
              cases b with
              | true =>
                rw [if_pos rfl]
                refine ⟨ω6, L1, M3, r2.mono l6, m6, ?_⟩
                simp only [if_true, evGs] at h
                cases q5 : evE E ce L1 M3 with
                | exc x M5 => rw [q5] at h; exact h.elim
                | bad => rw [q5] at h; exact h.elim
                | ok y M5 =>
                  rw [q5] at h
                  simp only [Res.bind_ok] at h
                  intro ω7 H7 v l7 m7 r7
                  unfold pushE at h
                  cases q6 : M5[M1.length]? with
                  | none => rw [q6] at h; exact h.elim
                  | some o =>
                    rw [q6] at h
                    cases o with
                    | lst acc =>
                      simp only at h
                      by_cases hz : acc.length < line
                      · rw [if_pos hz] at h
                        simp only [Res.bind_ok] at h
                        obtain ⟨us, k1, k2, k3⟩ := push_rep m7 (prefix_get (l6.trans l7).ρ hn') r7 q6 hz
                        refine ⟨us, k1, k2, rfl, hlt, ω7, _, l4.trans (l6.trans l7), k3, ?_⟩
                        by_cases hst : still M1 d (M5.set M1.length (.lst (acc ++ [y]))) = true
                        · rw [if_pos hst] at h
                          exact ⟨hst, h⟩
                        · rw [if_neg hst] at h
                          exact h.elim
                      · rw [if_neg hz] at h
                        exact h.elim
                    | _ => exact h.elim
              | false =>
                rw [if_neg Bool.false_ne_true]
                simp only [Bool.false_eq_true, if_false, Res.bind_ok] at h
                refine ⟨rfl, hlt, ω6, M3, l4.trans l6, m6, ?_⟩
                by_cases hst : still M1 d M3 = true
                · rw [if_pos hst] at h
                  exact ⟨hst, h⟩
                · rw [if_neg hst] at h
                  exact h.elim
      · have e : i = xs.length := by omega
        subst e
        rw [List.drop_length] at h
        exact .inl ⟨w1 (Nat.le_refl _), rp_done m2 (l2.trans l4) m4 hn' h⟩
theorem snd_comp1 {ow : Bool} {elt tg iter : Expr} {ifs : List Expr} {scope : Scope} {own : List (Str × Nat)} {p : Pat} {ci ce : CE} {cifs : List CE} (hc : X.calm = true) (hN : X.N.Nodup) (hi : PI X tg iter (tI T W E p ci)) (ok : BlkOk X.N X.env.scope scope own)
    (hg : ∀ (s : Shared) (H : Hp) (C : Addr) (cl : List (Str × Addr)) (fp : List Addr), PG (X.blk s H scope (compEnvC scope cl C X.env) fp) tg (gP T p)) (ht : ∀ (s : Shared) (H : Hp) (C : Addr) (cl : List (Str × Addr)) (fp : List Addr), PTs (X.blk s H scope (compEnvC scope cl C X.env) fp) ifs (tTs T E cifs))
    (he : ∀ (s : Shared) (H : Hp) (C : Addr) (cl : List (Str × Addr)) (fp : List Addr), PE (X.blk s H scope (compEnvC scope cl C X.env) fp) elt (tD T WF E ce)) (hs : ∀ x, foldedSetIterable iter X.env x = pure x) (hv : ∀ i ∈ p.vars, i ∈ own.map (·.2)) :
    PE X (.ListComp elt [⟨tg, iter, ifs, 0⟩] scope pos) (tD T W E (.comp ow [.mk p ci cifs] (own.map (·.2)) ce)) := (pe_lc hc hN hi ok hg ht he hs).imp fun σ H Q h => lc_read hv h
end
end Lc
end

section
set_option autoImplicit false
set_option linter.all false
set_option Elab.async false
set_option maxRecDepth 100000
/-! Lc: statements. -/
namespace Lc
open PySem L2 PySem.Spec PyProof.Rows

section
variable {T : Tx} {W : WX} {E : Fe} {X : Cx} {pos p0 : Pos} {σ : L2.St} {ω : Wd} {M : Store} {H : Hp} {e c o i : Expr} {ce cc co ci : CE} {st : Stmt} {rest a b body : List Stmt} {cs : CS} {cr ca cb cbody : List CS} {L : Loc}
/-- an expression within a statement -/
theorem toS_bind {r : Res D} {f : D → Store → SR} {D0 : Ends} (h : SRP T W ω (r.toS L f) D0) (s : RepS T ω L σ) :
    RP T W σ (RepD T) ω r fun x M1 ω1 H1 v => SRP T W ω1 (f x M1) D0 := by
  cases r with
  | ok x M1 =>
    intro ω1 H1 v l1 m1 r1
    exact SRP.le l1 h
  | exc x M1 => exact fun ω' H' cls d l m x => h ω' H' σ cls d l (s.mono l) m x
  | bad => exact h
theorem snd_snil : PSs X [] (tSs T W E []) := pss_nil.imp fun D σ H ⟨ω, L, M, s, m, h⟩ => by
  rw [evB] at h
  exact h ω H σ (Le.refl _) s m
theorem snd_scons (h1 : PS X st (tS T W E cs)) (h2 : PSs X rest (tSs T W E cr)) : PSs X (st :: rest) (tSs T W E (cs :: cr)) := (pss_cons h1 h2).imp fun D σ H ⟨ω, L, M, s, m, h⟩ => by
  rw [evB] at h
  refine ⟨ω, L, M, s, m, ?_⟩
  cases q : evS E cs L M with
  | nx L1 M1 =>
    rw [q] at h
    exact fun ω' H' σ' l s' m' => ⟨ω', L1, M1, s', m', SRP.le l h⟩
  | rt v M1 => rw [q] at h; exact h
  | bk L1 M1 => rw [q] at h; exact h
  | ct L1 M1 => rw [q] at h; exact h
  | exc x L1 M1 => rw [q] at h; exact h
  | bad => rw [q] at h; exact h
theorem snd_exp (he : PE X e (tD T W E ce)) (hs : swapsWith e none pos.line X.env = pure false) : PS X (.Expr e pos) (tS T W E (.exp ce)) := (ps_expr he hs).imp fun D σ H ⟨ω, L, M, s, m, h⟩ => by
  rw [evS] at h
  exact ⟨ω, L, M, s, m, (toS_bind h s).imp fun x M1 ω1 H1 v l1 m1 _ _ r => r ω1 H1 σ (Le.refl _) (s.mono l1) m1⟩
theorem snd_pass : PS X (.Pass pos) (tS T W E .pass) := ps_pass.imp fun D σ H ⟨ω, L, M, s, m, h⟩ => by
  rw [evS] at h
  exact h ω H σ (Le.refl _) s m
theorem snd_doc {x : Str} {j : Nat} {pos' : Pos} : PS X (.Expr (.Constant (.str x) j pos) pos') (tS T W E .pass) := ps_doc.imp fun D σ H ⟨ω, L, M, s, m, h⟩ => by
  rw [evS] at h
  exact h ω H σ (Le.refl _) s m
theorem snd_brk : PS X (.Break pos) (tS T W E .brk) := ps_break.imp fun D σ H ⟨ω, L, M, s, m, h⟩ => by
  rw [evS] at h
  exact h ω H σ (Le.refl _) s m
theorem snd_cnt : PS X (.Continue pos) (tS T W E .cnt) := ps_continue.imp fun D σ H ⟨ω, L, M, s, m, h⟩ => by
  rw [evS] at h
  exact h ω H σ (Le.refl _) s m
theorem snd_ret (he : PE X e (tD T W E ce)) : PS X (.Return (some e) pos) (tS T W E (.ret ce)) := (ps_ret he).imp fun D σ H ⟨ω, L, M, s, m, h⟩ => by
  rw [evS] at h
  exact ⟨ω, L, M, s, m, (toS_bind h s).imp fun x M1 ω1 H1 v l1 m1 q1 _ r => r ω1 H1 v (Le.refl _) m1 q1⟩
theorem snd_retN : PS X (.Return none pos) (tS T W E .retN) := ps_retN.imp fun D σ H ⟨ω, L, M, s, m, h⟩ => by
  rw [evS] at h
  exact h ω H _ (Le.refl _) m .non
theorem snd_never : PS X st (tS T W E .never) := ps_never.imp fun D σ H ⟨ω, L, M, s, m, h⟩ => by
  rw [evS] at h
  exact h.elim
theorem snd_if (hc : PT X c (tT T W E cc)) (ha : PSs X a (tSs T W E ca)) (hb : PSs X b (tSs T W E cb)) : PS X (.If c a b pos) (tS T W E (.ite cc ca cb)) := (ps_if hc ha hb).imp fun D σ H ⟨ω, L, M, s, m, h⟩ => by
  rw [evS] at h
  refine ⟨ω, L, M, s, m, ?_⟩
  unfold evT truthR
  cases q : evE E cc L M with
  | exc x M1 => rw [q] at h; exact fun ω' H' cls d l m x => h ω' H' σ cls d l (s.mono l) m x
  | bad => rw [q] at h; exact h
  | ok x M1 =>
    rw [q] at h
    simp only [Res.bind_ok]
    simp only [Res.toS] at h
    cases q2 : truth M1 x with
    | none => rw [q2] at h; exact h
    | some k =>
      rw [q2] at h
      intro ω1 H1 _ l1 m1 _
      cases k with
      | true => rw [if_pos rfl]; exact ⟨ω1, L, M1, s.mono l1, m1, SRP.le l1 h⟩
      | false => rw [if_neg Bool.false_ne_true]; exact ⟨ω1, L, M1, s.mono l1, m1, SRP.le l1 h⟩
theorem snd_asg {tg : Expr} {p : Pat} (he : PE X e (tD T W E ce)) (hg : PG X tg (gP T p)) (hs : swapsWithSole [tg] e pos.line X.env = pure false) (hw : swappedStores [tg] e X.env = pure none) (h1 : (assignEach [tg] X.env).map (·.2) = [assign tg X.env]) :
    PS X (.Assign [tg] e pos) (tS T W E (.asg (.pat p) ce)) := (ps_asg he hg hs hw h1).imp fun D σ H ⟨ω, L, M, s, m, h⟩ => by
  rw [evS] at h
  refine ⟨ω, L, M, s, m, (toS_bind h s).imp fun x M1 ω1 H1 v l1 m1 q1 _ r => ?_⟩
  have r : SRP T W ω1 (match Pat.set p x M1 L with | some L1 => .nx L1 M1 | none => .bad) D := r
  cases q : Pat.set p x M1 L with
  | none => rw [q] at r; exact r.elim
  | some L1 =>
    rw [q] at r
    exact ⟨ω1, L, M1, x, s.mono l1, m1, yld_of m1 q1, L1, q, fun σ' r' _ => r ω1 H1 σ' (Le.refl _) r' m1⟩
/-- name = [..] on one line -/
theorem snd_asgC1 {ow : Bool} {i : Nat} {y : Str} {py : Pos} {elt tg iter : Expr} {ifs : List Expr} {scope : Scope} {own : List (Str × Nat)} {spos : Pos} {p : Pat} {ci ce : CE} {cifs : List CE} (hc : X.calm = true) (hN : X.N.Nodup) (hy : X.N[i]? = some y) (hyl : X.env.scope.names.lookup y = some .local)
    (hsw : swapsWith (.ListComp elt [⟨tg, iter, ifs, 0⟩] scope pos) (some (.Name y py)) spos.line X.env = pure true) (hi : PI X tg iter (tI T W E p ci)) (ok : BlkOk X.N X.env.scope scope own)
    (hg : ∀ (s : Shared) (H : Hp) (C : Addr) (cl : List (Str × Addr)) (fp : List Addr), PG (X.blk s H scope (compEnvC scope cl C X.env) fp) tg (gP T p)) (ht : ∀ (s : Shared) (H : Hp) (C : Addr) (cl : List (Str × Addr)) (fp : List Addr), PTs (X.blk s H scope (compEnvC scope cl C X.env) fp) ifs (tTs T E cifs))
    (he : ∀ (s : Shared) (H : Hp) (C : Addr) (cl : List (Str × Addr)) (fp : List Addr), PE (X.blk s H scope (compEnvC scope cl C X.env) fp) elt (tD T WF E ce)) (hs : ∀ x, foldedSetIterable iter X.env x = pure x) (hv : ∀ i ∈ p.vars, i ∈ own.map (·.2)) :
    PS X (.Assign [.Name y py] (.ListComp elt [⟨tg, iter, ifs, 0⟩] scope pos) spos) (tS T W E (.asg (.pat (.v i)) (.comp ow [.mk p ci cifs] (own.map (·.2)) ce))) := by
  refine (ps_setLc (te := tD T WF E ce) hc hN hy hyl hsw hi ok hg ht he hs).imp fun D σ H ⟨ω, L, M, s, m, h⟩ => ?_
  rw [evS] at h
  have key := lc_read (T := T) (W := W) (E := E) (ow := ow) (own := own) (p := p) (ci := ci) (ce := ce) (cifs := cifs) hv (Q := fun v H1 => D.nx (σ.set i (some v)) H1) ⟨ω, L, M, s, m, (toS_bind h s).imp fun x M1 ω1 H1 v l1 m1 q1 _ r => by
    have r : SRP T W ω1 (.nx (L.set i (some x)) M1) D := r
    exact r ω1 H1 _ (Le.refl _) ((s.mono l1).set i q1) m1⟩
  exact key
/-! ### loops -/
theorem snd_for {tg iter : Expr} {p : Pat} {ci : CE} (hp : PassesOwn (model X.prog X.w) X.A X.env X.xe) (hc : X.calm = true) (hi : PI X tg iter (tI T W E p ci)) (hg : PG X tg (gP T p)) (hb : PSs X body (tSs T W E cbody)) (hs : ∀ x, foldedSetIterable iter X.env x = pure x) :
    PS X (.For tg iter body [] pos) (tS T W E (.loop p ci cbody)) := (ps_for hp hc hi hg hb hs).imp fun D σ H ⟨ω, L, M, s, m, h⟩ => by
  rw [evS] at h
  refine ⟨ω, L, M, s, m, ?_⟩
  cases q : evE E ci L M with
  | exc x M1 => rw [q] at h; exact fun ω' H' cls d l m x => h ω' H' σ cls d l (s.mono l) m x
  | bad => rw [q] at h; exact h
  | ok d M1 =>
    rw [q] at h
    simp only [Res.toS] at h
    intro ω1 H1 _ l1 m1 _
    cases q2 : items M1 d with
    | none => rw [q2] at h; exact h.elim
    | some xs =>
      rw [q2] at h
      simp only at h
      refine ⟨xs, rfl, fun J H2 m2 wk => ?_⟩
      generalize hf : (fun x L1 M2 => match Pat.set p x M2 L1 with
        | some L2 => evB E cbody L2 M2
        | none => .bad) = f at h
      refine ⟨fun i mm σ H => mm = xs.length - i ∧ i ≤ xs.length ∧ ∃ ω' L' M', Le ω1 ω' ∧ RepS T ω' L' σ ∧ RepM T ω' M' H ∧ still M1 d M' = true ∧ SRP T W ω' (loopS f (still M1 d) (xs.drop i) L' M') D, ⟨_, rfl, Nat.zero_le _, ω1, L, M1, Le.refl _, s.mono l1, m2, still_self, SRP.le l1 h⟩, ?_⟩
      rintro i mm σ' H' ⟨rfl, hi, ω', L', M', l2, s2, m3, st, h⟩
      obtain ⟨w1, w2⟩ := wk ω' M' H' i l2 m3 st
      by_cases hlt : i < xs.length
      · refine .inr ?_
        have ed : xs.drop i = xs[i] :: xs.drop (i + 1) := List.drop_eq_getElem_cons hlt
        rw [ed] at h
        simp only [loopS] at h
        obtain ⟨go, yl⟩ := w2 xs[i] (List.getElem?_eq_getElem hlt)
        refine ⟨go, fun σ H => xs.length - (i + 1) = xs.length - (i + 1) ∧ i + 1 ≤ xs.length ∧ ∃ ω' L' M', Le ω1 ω' ∧ RepS T ω' L' σ ∧ RepM T ω' M' H ∧ still M1 d M' = true ∧ SRP T W ω' (loopS f (still M1 d) (xs.drop (i + 1)) L' M') D, fun σ H z => ⟨_, by omega, z⟩, fun x H5 y => ?_⟩
        obtain ⟨m5, yo⟩ := yl x H5 y
        cases q3 : Pat.set p xs[i] M' L' with
        | none =>
          have fx : f xs[i] L' M' = .bad := by rw [← hf]; simp only [q3]
          rw [fx] at h
          exact h.elim
        | some L1 =>
          have fx : f xs[i] L' M' = evB E cbody L1 M' := by rw [← hf]; simp only [q3]
          rw [fx] at h
          refine ⟨ω', L', M', xs[i], s2, m5, yo, L1, q3, fun σ2 r2 _ => ⟨ω', L1, M', r2, m5, ?_⟩⟩
          have again : ∀ {L4 : Loc} {M4 : Store}, SRP T W ω' (if still M1 d M4 then loopS f (still M1 d) (xs.drop (i + 1)) L4 M4 else .bad) D → ∀ (ω4 : Wd) (H4 : Hp) (σ4 : L2.St), Le ω' ω4 → RepS T ω4 L4 σ4 → RepM T ω4 M4 H4 →
              xs.length - (i + 1) = xs.length - (i + 1) ∧ i + 1 ≤ xs.length ∧ ∃ ω' L' M', Le ω1 ω' ∧ RepS T ω' L' σ4 ∧ RepM T ω' M' H4 ∧ still M1 d M' = true ∧ SRP T W ω' (loopS f (still M1 d) (xs.drop (i + 1)) L' M') D := fun {L4 M4} h ω4 H4 σ4 l4 s4 m4 => by
            by_cases hst : still M1 d M4 = true
            · rw [if_pos hst] at h
              exact ⟨rfl, hlt, ω4, L4, M4, l2.trans l4, s4, m4, hst, SRP.le l4 h⟩
            · rw [if_neg hst] at h
              exact h.elim
          cases q4 : evB E cbody L1 M' with
          | nx L4 M4 => rw [q4] at h; exact fun ω4 H4 σ4 l4 s4 m4 => again h ω4 H4 σ4 l4 s4 m4
          | ct L4 M4 => rw [q4] at h; exact fun ω4 H4 σ4 l4 s4 m4 => again h ω4 H4 σ4 l4 s4 m4
          | bk L4 M4 => rw [q4] at h; exact h
          | rt v M4 => rw [q4] at h; exact h
          | exc x L4 M4 => rw [q4] at h; exact h
          | bad => rw [q4] at h; exact h
      · have e : i = xs.length := by omega
        subst e
        rw [List.drop_length] at h
        exact .inl ⟨w1 (Nat.le_refl _), h ω' H' σ' (Le.refl _) s2 m3⟩
theorem snd_while (hp : PassesOwn (model X.prog X.w) X.A X.env X.xe) (hc : PT X c (tT T W E cc)) (hb : PSs X body (tSs T W E cbody)) : PS X (.While c body [] pos) (tS T W E (.whl cc cbody)) := (ps_while hp hc hb).imp fun D σ H ⟨ω, L, M, s, m, h⟩ => by
  rw [evS] at h
  refine ⟨fun n σ H => ∃ ω L M, RepS T ω L σ ∧ RepM T ω M H ∧ SRP T W ω (whileS (evE E cc) (evB E cbody) n L M) D, ⟨_, ω, L, M, s, m, h⟩, ?_⟩
  rintro n σ H ⟨ω, L, M, s, m, h⟩
  cases n with
  | zero => exact h.elim
  | succ n =>
    rw [whileS] at h
    refine ⟨ω, L, M, s, m, ?_⟩
    unfold evT truthR
    cases q : evE E cc L M with
    | exc x M1 => rw [q] at h; exact fun ω' H' cls d l m x => h ω' H' σ cls d l (s.mono l) m x
    | bad => rw [q] at h; exact h
    | ok x M1 =>
      rw [q] at h
      simp only [Res.bind_ok]
      simp only [Res.toS] at h
      cases q2 : truth M1 x with
      | none => rw [q2] at h; exact h
      | some k =>
        rw [q2] at h
        intro ω1 H1 _ l1 m1 _
        cases k with
        | false => rw [if_neg Bool.false_ne_true]; exact h ω1 H1 σ l1 (s.mono l1) m1
        | true =>
          rw [if_pos rfl]
          simp only at h
          refine ⟨fun σ H => ∃ ω L M, RepS T ω L σ ∧ RepM T ω M H ∧ SRP T W ω (whileS (evE E cc) (evB E cbody) n L M) D, fun σ' H' z => ⟨n, Nat.lt_succ_self _, z⟩, ω1, L, M1, s.mono l1, m1, ?_⟩
          have h := SRP.le l1 h
          cases q4 : evB E cbody L M1 with
          | nx L4 M4 => rw [q4] at h; exact fun ω4 H4 σ4 l4 s4 m4 => ⟨ω4, L4, M4, s4, m4, SRP.le l4 h⟩
          | ct L4 M4 => rw [q4] at h; exact fun ω4 H4 σ4 l4 s4 m4 => ⟨ω4, L4, M4, s4, m4, SRP.le l4 h⟩
          | bk L4 M4 => rw [q4] at h; exact h
          | rt v M4 => rw [q4] at h; exact h
          | exc x L4 M4 => rw [q4] at h; exact h
          | bad => rw [q4] at h; exact h
/-! ### fields, places -/
theorem putF_zip {f : Str} {d : D} {v : V} : ∀ {ns : List Str} {vs : List D} {ws : List V}, ns.length = ws.length → RepL T ω vs ws → RepD T ω d v →
    ∃ ws', L2.putF f v (ns.zip ws) = (putF f d ns vs).1.zip ws' ∧ (putF f d ns vs).1.length = ws'.length ∧ RepL T ω (putF f d ns vs).2 ws'
  | [], [], [], _, .nil, r => ⟨[v], rfl, rfl, .cons r .nil⟩
  | [], _ :: _, _ :: _, h, .cons _ _, _ => by simp at h
  | n :: ns, [], [], h, .nil, _ => by simp at h
  | n :: ns, w :: vs, u :: ws, h, .cons r0 t, r => by
    rw [List.zip_cons_cons]
    unfold L2.putF putF
    by_cases c : n = f
    · simp only [c, if_true]
      exact ⟨v :: ws, by rw [List.zip_cons_cons], by simpa using h, .cons r t⟩
    · simp only [c, if_false]
      obtain ⟨ws', h1, h2, h3⟩ := putF_zip (f := f) (by simpa using h) t r
      refine ⟨u :: ws', ?_, ?_, .cons r0 h3⟩
      · show (n, u) :: L2.putF f v (ns.zip ws) = _
        rw [h1]
        rfl
      · show ((putF f d ns vs).1.length + 1 = ws'.length + 1)
        rw [h2]
theorem rp_setFld {d x : D} {v ov : V} {f : Str} {M2 : Store} (hf : ∀ c, E.fld c f = true → Cls T.K (T.cA c) ∧ NoAttr T.K (T.cA c) f) (m : RepM T ω M H) (ro : RepD T ω x ov) (r : RepD T ω d v) (h : setFld E x f d M = some M2) :
    ∃ a C dx fs, ov = .ref a ∧ H a = some (.ins C dx fs) ∧ Cls T.K C ∧ NoAttr T.K C f ∧ fs.length < 1000 ∧ RepM T ω M2 (upd H a (.ins C dx (L2.putF f v fs))) := by
  unfold setFld at h
  cases ro with
  | @loc n a h1 =>
    simp only at h
    cases q : M[n]? with
    | none => rw [q] at h; cases h
    | some ob =>
      rw [q] at h
      cases ob with
      | obj c ns vs =>
        simp only at h
        by_cases g : (E.fld c f && decide (ns.length < 900)) = true
        · rw [if_pos g] at h
          cases h
          have g' := Bool.and_eq_true_iff.mp g
          have hz : ns.length < 900 := of_decide_eq_true g'.2
          obtain ⟨a', k1, k2, k3⟩ := m.at_ n _ q nofun
          rw [h1] at k1
          cases k1
          cases k3 with
          | @obj dx _ _ _ ws j1 j2 j3 j4 j5 =>
            obtain ⟨ws', z1, z2, z3⟩ := putF_zip (f := f) j4 j5 r
            refine ⟨a, _, dx, _, rfl, j1, (hf c g'.1).1, (hf c g'.1).2, by rw [List.length_zip]; omega, ?_⟩
            have ne : dx ≠ a := fun z => by rw [z, j1] at j2; cases j2
            rw [z1]
            exact m.write q nofun h1 (.obj (upd_same ..) (by rw [upd_ne ne]; exact j2) j3 z2 z3)
        · rw [if_neg g] at h
          cases h
      | _ => cases h
  | _ => cases h
theorem snd_setF {f : Str} {pos' : Pos} (hK : X.K = T.K) (hf : ∀ c, E.fld c f = true → Cls T.K (T.cA c) ∧ NoAttr T.K (T.cA c) f) (ho : PE X o (tD T W E co)) (he : PE X e (tD T W E ce)) (hs : swapsWith e (some (.Attribute o f pos')) pos.line X.env = pure false) :
    PS X (.Assign [.Attribute o f pos'] e pos) (tS T W E (.asg (.fld co f) ce)) := (ps_fld ho he hs).imp fun D σ H ⟨ω, L, M, s, m, h⟩ => by
  rw [evS] at h
  refine ⟨ω, L, M, s, m, (toS_bind h s).imp fun x M1 ω1 H1 v l1 m1 q1 _ r => ?_⟩
  have r : SRP T W ω1 ((evE E co L M1).toS L fun y M2 => match setFld E y f x M2 with | some M3 => .nx L M3 | none => .bad) D := r
  refine ⟨ω1, L, M1, s.mono l1, m1, (toS_bind r (s.mono l1)).imp fun y M2 ω2 H2 ov l2 m2 q2 _ r2 => ?_⟩
  cases q : setFld E y f x M2 with
  | none => rw [q] at r2; exact r2.elim
  | some M3 =>
    rw [q] at r2
    obtain ⟨a, C, dx, fs, rfl, h1, h2, h3, h4, m3⟩ := rp_setFld hf m2 q2 (q1.mono l2) q
    rw [hK]
    exact ⟨a, C, dx, fs, rfl, h1, h2, h3, h4, r2 ω2 _ σ (Le.refl _) (s.mono (l1.trans l2)) m3⟩
end
end Lc
end

section
set_option autoImplicit false
set_option linter.all false
set_option Elab.async false
set_option maxRecDepth 100000
/-! Lc: more statements; methods of lists and texts. -/
namespace Lc
open PySem L2 PySem.Spec PyProof.Rows

section
variable {T : Tx} {W : WX} {E : Fe} {X : Cx} {pos p0 apos : Pos} {σ : L2.St} {ω : Wd} {M : Store} {H : Hp} {e c o i : Expr} {ce cc co ci : CE} {st : Stmt} {rest a b body : List Stmt} {es : List Expr} {cs : List CE} {L : Loc} {own : Bool}
def sl1 : Expr → Bool
  | .Slice _ _ _ _ => true
  | _ => false
theorem snd_setS {k2 : Pos} (hsl : sl1 i = false) (ho : PE X o (tD T W E co)) (hi : PE X i (tD T W E ci)) (he : PE X e (tD T W E ce)) (hs : swapsWithSole [.Subscript o i k2] e pos.line X.env = pure false) : PS X (.Assign [.Subscript o i k2] e pos) (tS T W E (.asg (.sub co ci) ce)) :=
  (ps_asg he (pg_sub ho hi set_list (by intro v; cases i <;> first | rfl | cases hsl)) hs rfl rfl).imp fun D σ H ⟨ω, L, M, s, m, h⟩ => by
    rw [evS] at h
    refine ⟨ω, L, M, s, m, (toS_bind h s).imp fun x M1 ω1 H1 v l1 m1 q1 _ r => ?_⟩
    have r : SRP T W ω1 ((evE E co L M1).toS L fun y M2 => (evE E ci L M2).toS L fun z M3 => match setIx y z x M3 with | some M4 => .nx L M4 | none => .bad) D := r
    refine ⟨ω1, L, M1, s.mono l1, m1, (toS_bind r (s.mono l1)).imp fun y M2 ω2 H2 ov l2 m2 q2 _ r2 => ?_⟩
    refine ⟨ω2, L, M2, s.mono (l1.trans l2), m2, (toS_bind r2 (s.mono (l1.trans l2))).imp fun z M3 ω3 H3 iv l3 m3 q3 _ r3 => ?_⟩
    cases q : setIx y z x M3 with
    | none => rw [q] at r3; exact r3.elim
    | some M4 =>
      rw [q] at r3
      unfold setIx at q
      cases q2 with
      | @loc n a h1 =>
        cases q3 with
        | int k =>
          simp only at q
          cases q4 : M3[n]? with
          | none => rw [q4] at q; cases q
          | some ob =>
            rw [q4] at q
            cases ob with
            | lst xs =>
              simp only at q
              cases q5 : L2.ixN xs.length k with
              | none => rw [q5] at q; cases q
              | some j =>
                rw [q5] at q
                cases q
                have h3 := prefix_get l3.ρ h1
                obtain ⟨a', k1, k2, k3⟩ := m3.at_ n _ q4 nofun
                rw [h3] at k1
                cases k1
                cases k3 with
                | @lst _ vs j1 j2 =>
                  exact ⟨a, vs, k, j, rfl, rfl, j1, by rw [← j2.length]; exact q5, r3 ω3 _ σ (Le.refl _) (s.mono (l1.trans (l2.trans l3))) (m3.write q4 nofun h3 (.lst (upd_same ..) (j2.set (q1.mono (l2.trans l3)) j)))⟩
            | _ => cases q
        | _ => cases q
      | _ => cases q
/-! ### a op= b -/
def augR (op : BOp) : V → V → Hp → VK → Prop := fun x y H Q => ∃ i j, x = .int i ∧ y = .int j ∧ ((op = .add ∧ Q (.int (i + j)) H) ∨ (op = .sub ∧ Q (.int (i - j)) H))
theorem augI_rep {op : BOp} {k : Int} {d z : D} {y : V} (r : RepD T ω d y) (h : augI op k d = some z) : ∃ j, y = .int j ∧ ((op = .add ∧ z = .int (k + j)) ∨ (op = .sub ∧ z = .int (k - j))) := by
  unfold augI at h
  cases op <;> cases r <;> simp only [Option.some.injEq, reduceCtorEq] at h
  · exact ⟨_, rfl, .inl ⟨rfl, h.symm⟩⟩
  · exact ⟨_, rfl, .inr ⟨rfl, h.symm⟩⟩
theorem snd_aug {op : BOp} {j : Nat} {x : Str} {pos' : Pos} (hop : op = .add ∨ op = .sub) (hN : X.N.Nodup) (hi : X.N[j]? = some x) (hx : L2.Loc X.env.scope x) (hf : X.fn x = true ∨ X.env.scope.names.lookup x = some .local) (he : PE X e (tD T W E ce)) :
    PS X (.AugAssign (.Name x pos') (if op = .add then .Add else .Sub) e pos) (tS T W E (.aug j op ce)) := by
  have key : ∀ {D : Ends} {σ : L2.St} {H : Hp}, tS T W E (.aug j op ce) D σ H → ∃ k : Int, σ[j]? = some (some (.int k)) ∧ tD T W E ce σ H fun y H1 => ∃ i, y = .int i ∧ ((op = .add ∧ D.nx (σ.set j (some (.int (k + i)))) H1) ∨ (op = .sub ∧ D.nx (σ.set j (some (.int (k - i)))) H1)) := by
    intro D σ H ⟨ω, L, M, s, m, h⟩
    rw [evS] at h
    cases q : L[j]? with
    | none => rw [q] at h; exact h.elim
    | some o =>
      rw [q] at h
      cases o with
      | none => exact h.elim
      | some d =>
        cases d with
        | int k =>
          obtain ⟨v, h1, h2⟩ := s.2 j _ q
          obtain rfl := h2.int_inv
          refine ⟨k, h1, ω, L, M, s, m, (toS_bind h s).imp fun y M1 ω1 H1 v l1 m1 q1 _ r => ?_⟩
          cases q2 : augI op k y with
          | none => rw [q2] at r; exact r.elim
          | some z =>
            rw [q2] at r
            obtain ⟨i, rfl, z1 | z1⟩ := augI_rep q1 q2
            · obtain ⟨rfl, rfl⟩ := z1
              exact ⟨i, rfl, .inl ⟨rfl, r ω1 H1 _ (Le.refl _) ((s.mono l1).set j (.int _)) m1⟩⟩
            · obtain ⟨rfl, rfl⟩ := z1
              exact ⟨i, rfl, .inr ⟨rfl, r ω1 H1 _ (Le.refl _) ((s.mono l1).set j (.int _)) m1⟩⟩
        | _ => exact h.elim
  rcases hop with rfl | rfl
  · rw [if_pos rfl]
    refine (ps_aug hN hi hx he ip_add hf).imp fun D σ H h => ?_
    obtain ⟨k, h1, ω, L, M, s, m, h2⟩ := key h
    exact ⟨_, h1, ω, L, M, s, m, h2.imp fun y M1 ω1 H1 v l1 m1 q1 _ ⟨i, e, z⟩ => ⟨k, i, rfl, e, z.elim (fun z => z.2) fun z => nomatch z.1⟩⟩
  · rw [if_neg (by decide)]
    refine (ps_aug hN hi hx he ip_sub hf).imp fun D σ H h => ?_
    obtain ⟨k, h1, ω, L, M, s, m, h2⟩ := key h
    exact ⟨_, h1, ω, L, M, s, m, h2.imp fun y M1 ω1 H1 v l1 m1 q1 _ ⟨i, e, z⟩ => ⟨k, i, rfl, e, z.elim (fun z => nomatch z.1) fun z => z.2⟩⟩
/-! ### a ghost: a thing let freeze -/
theorem snd_fz {j : Nat} {ss : List Stmt} {cr : List CS} (h : PSs X ss (tSs T W E cr)) : PSs X ss (tSs T W E (.fz j :: cr)) := h.imp fun D0 σ H ⟨ω, L, M, s, m, h⟩ => by
  rw [evB, evS] at h
  cases q : L[j]? with
  | none => rw [q] at h; exact h.elim
  | some o =>
    rw [q] at h
    cases o with
    | none => exact h.elim
    | some d =>
      simp only at h
      obtain ⟨v, h1, h2⟩ := s.2 j _ q
      have fin : ∀ (ω' : Wd) (M' : Store) (d' : D), Le ω ω' → RepM T ω' M' H → RepD T ω' d' v → SRP T W ω (evB E cr (L.set j (some d')) M') D0 → tSs T W E cr D0 σ H := fun ω' M' d' l m' r h => by
        refine ⟨ω', L.set j (some d'), M', ?_, m', SRP.le l h⟩
        have z := (s.mono l).set j r
        have e : σ.set j (some v) = σ := by
          apply List.ext_getElem?
          intro i
          by_cases hi : j = i
          · subst hi
            rw [List.getElem?_set_self (List.getElem?_eq_some_iff.mp h1).1, h1]
          · rw [List.getElem?_set_ne hi]
        rw [e] at z
        exact z
      cases h2 with
      | @loc n a e =>
        unfold freeze at h
        simp only at h
        cases q2 : M[n]? with
        | none => rw [q2] at h; exact h.elim
        | some ob =>
          rw [q2] at h
          cases ob with
          | dead => exact h.elim
          | lst xs => obtain ⟨ω', l, m', r'⟩ := m.freeze q2 nofun e; exact fin ω' _ _ l m' r' h
          | dic a b => obtain ⟨ω', l, m', r'⟩ := m.freeze q2 nofun e; exact fin ω' _ _ l m' r' h
          | obj a b c => obtain ⟨ω', l, m', r'⟩ := m.freeze q2 nofun e; exact fin ω' _ _ l m' r' h
      | non => exact fin ω M _ (Le.refl _) m .non h
      | bl b => exact fin ω M _ (Le.refl _) m (.bl b) h
      | int b => exact fin ω M _ (Le.refl _) m (.int b) h
      | str b => exact fin ω M _ (Le.refl _) m (.str b) h
      | cls b => exact fin ω M _ (Le.refl _) m (.cls b) h
      | tup a b => exact fin ω M _ (Le.refl _) m (.tup a b) h
      | lst a b => exact fin ω M _ (Le.refl _) m (.lst a b) h
      | dicK a b c => exact fin ω M _ (Le.refl _) m (.dicK a b c) h
      | dicT a b c d => exact fin ω M _ (Le.refl _) m (.dicT a b c d) h
      | obj a b c d => exact fin ω M _ (Le.refl _) m (.obj a b c d) h
/-! ### methods of lists -/
theorem lst_ty {x : D} {v : V} {xs : List D} (m : RepM T ω M H) (r : RepD T ω x v) (h : view M x = .lst xs) : tyV T.K "list" v H := by
  obtain ⟨a, vs, rfl, h1, _⟩ := m.lst r h
  exact .inl ⟨rfl, vs, h1⟩
def MetK (T : Tx) (W : WX) (bm : BM) (own : Bool) (r : V → List V → Hp → VK → Prop) : Prop :=
  ∀ σ Q ω M (d : D) (v : V) (ds : List D) (vs : List V) H, RepM T ω M H → RepD T ω d v → RepL T ω ds vs → RP T W σ (RepD T) ω (bmeth bm own d ds M) (fun _ _ _ H' v => Q v H') → r v vs H Q
theorem loc_of {n : Nat} {a : Addr} {q : AO} (m : RepM T ω M H) (h1 : ω.ρ[n]? = some a) (q1 : M[n]? = some q) (nd : q ≠ .dead) : RepO T ω H a q := by
  obtain ⟨a', k1, _, k2⟩ := m.at_ n _ q1 nd
  rw [h1] at k1
  cases k1
  exact k2
theorem bad_loc {bm : BM} {ds : List D} {d : D} {x : V} (hb : bm = .append ∨ bm = .pop ∨ bm = .clear) (r : RepD T ω d x) (hn : ∀ n, d ≠ .loc n) : bmeth bm own d ds M = .bad := by
  rcases hb with rfl | rfl | rfl <;> cases r <;> first | rfl | (exact absurd rfl (hn _))
theorem met_append : MetK T W .append own rAppend := by
  intro σ Q ω M d v ds vs H m r rs h
  by_cases c : ∃ n, d = .loc n
  · obtain ⟨n, rfl⟩ := c
    cases r with
    | @loc _ a h1 =>
      match ds, rs, h with
      | [y], rs, h =>
        obtain ⟨u, rfl, ru⟩ := rep1 rs rfl
        simp only [bmeth] at h
        cases q : M[n]? with
        | none => rw [q] at h; exact h.elim
        | some ob =>
          rw [q] at h
          cases ob with
          | lst xs =>
            simp only at h
            by_cases hz : xs.length < line
            · rw [if_pos hz] at h
              obtain ⟨us, k1, k2, k3⟩ := push_rep m h1 ru q hz
              exact ⟨a, us, u, rfl, rfl, k1, k2, h ω _ _ (Le.refl _) k3 .non⟩
            · rw [if_neg hz] at h; exact h.elim
          | _ => exact h.elim
      | [], _, h => exact h.elim
      | _ :: _ :: _, _, h => exact h.elim
  · rw [bad_loc (.inl rfl) r fun n e => c ⟨n, e⟩] at h
    exact h.elim
theorem met_clear : MetK T W .clear own rClear := by
  intro σ Q ω M d v ds vs H m r rs h
  by_cases c : ∃ n, d = .loc n
  · obtain ⟨n, rfl⟩ := c
    cases r with
    | @loc _ a h1 =>
      match ds, rs, h with
      | [], rs, h =>
        cases rs
        simp only [bmeth] at h
        cases q : M[n]? with
        | none => rw [q] at h; exact h.elim
        | some ob =>
          rw [q] at h
          cases ob with
          | lst xs =>
            cases loc_of m h1 q nofun with
            | lst k1 k2 => exact ⟨a, _, rfl, rfl, k1, h ω _ _ (Le.refl _) (m.write q nofun h1 (.lst (upd_same ..) .nil)) .non⟩
          | _ => exact h.elim
      | _ :: _, _, h => exact h.elim
  · rw [bad_loc (.inr (.inr rfl)) r fun n e => c ⟨n, e⟩] at h
    exact h.elim
theorem RepL.dropLast : ∀ {xs : List D} {vs : List V}, RepL T ω xs vs → RepL T ω xs.dropLast vs.dropLast
  | _, _, .nil => .nil
  | _, _, .cons _ .nil => .nil
  | _, _, .cons r (.cons r2 t) => by
    rw [List.dropLast_cons₂, List.dropLast_cons₂]
    exact .cons r (RepL.dropLast (.cons r2 t))
theorem met_pop : MetK T W .pop own rPop := by
  intro σ Q ω M d v ds vs H m r rs h
  by_cases c : ∃ n, d = .loc n
  · obtain ⟨n, rfl⟩ := c
    cases r with
    | @loc _ a h1 =>
      match ds, rs, h with
      | [], rs, h =>
        cases rs
        simp only [bmeth] at h
        cases q : M[n]? with
        | none => rw [q] at h; exact h.elim
        | some ob =>
          rw [q] at h
          cases ob with
          | lst xs =>
            simp only at h
            cases q2 : xs[xs.length - 1]? with
            | none => rw [q2] at h; exact h.elim
            | some y =>
              rw [q2] at h
              cases loc_of m h1 q nofun with
              | lst k1 k2 =>
                obtain ⟨u, j1, j2⟩ := k2.get q2
                exact ⟨a, _, u, rfl, rfl, k1, by rw [← k2.length]; exact j1, h ω _ _ (Le.refl _) (m.write q nofun h1 (.lst (upd_same ..) k2.dropLast)) j2⟩
          | _ => exact h.elim
      | _ :: _, _, h => exact h.elim
  · rw [bad_loc (.inr (.inl rfl)) r fun n e => c ⟨n, e⟩] at h
    exact h.elim
theorem snd_bm {bm : BM} {name : Str} {id : String} {r : V → List V → Hp → VK → Prop} (hK : X.K = T.K) (pa : PlainAttrs "list") (slot : Slot "list" name id) (hty : typeOf (.builtin id) = pure (.type "method_descriptor")) (hm : MtR X id r) (hk : MetK T W bm own r) (hb : ∀ d, bmK bm d = true → ∃ xs, d = .lst xs)
    (hbase : attributeBase o name X.env (eval o X.env) = eval o X.env) (hline : (apos.endLine == pos.line) = true) (hs : noStar (e :: es) = true) (hfew : (e :: es).length < 30) (ho : PE X o (tD T W E co)) (ha : PA X (e :: es) (tDs T W E cs)) : PE X (.Call (.Attribute o name apos) (e :: es) [] pos) (tD T W E (.bm bm own co cs)) :=
  (pe_bm pa slot hty hm ho ha hbase (by rw [star_all hs]; simpa [backToKw, keywordEach] using hfew) hline (starEach_c (noStar_cons hs).1) (plain_args (noStar_cons hs).2)).imp fun σ H Q ⟨ω, L, M, s, m, h⟩ => by
    unfold evE at h
    refine ⟨ω, L, M, s, m, (RP.bind (R := RepD T) h).imp fun x M1 ω1 H1 v l1 m1 q1 _ r1 => ?_⟩
    by_cases c : bmK bm (view M1 x) = true
    · rw [if_pos c] at r1
      obtain ⟨xs, e⟩ := hb _ c
      refine ⟨by rw [hK]; exact lst_ty m1 q1 e, ω1, L, M1, s.mono l1, m1, (RP.bind (R := RepL T) r1).imp fun ds M2 ω2 H2 vs l2 m2 q2 _ r2 => ?_⟩
      exact hk σ Q ω2 M2 x v ds vs H2 m2 (q1.mono l2) q2 r2
    · rw [if_neg c] at r1
      exact r1.elim
theorem snd_bm0 {bm : BM} {name : Str} {id : String} {r : V → List V → Hp → VK → Prop} (hK : X.K = T.K) (pa : PlainAttrs "list") (slot : Slot "list" name id) (hty : typeOf (.builtin id) = pure (.type "method_descriptor")) (hm : MtR X id r) (hk : MetK T W bm own r) (hb : ∀ d, bmK bm d = true → ∃ xs, d = .lst xs)
    (hbase : attributeBase o name X.env (eval o X.env) = eval o X.env) (hline : (apos.endLine == pos.line) = true) (ho : PE X o (tD T W E co)) : PE X (.Call (.Attribute o name apos) [] [] pos) (tD T W E (.bm bm own co [])) :=
  (pe_bm0 pa slot hty hm ho hbase hline).imp fun σ H Q ⟨ω, L, M, s, m, h⟩ => by
    unfold evE at h
    refine ⟨ω, L, M, s, m, (RP.bind (R := RepD T) h).imp fun x M1 ω1 H1 v l1 m1 q1 _ r1 => ?_⟩
    by_cases c : bmK bm (view M1 x) = true
    · rw [if_pos c, evEs_nil] at r1
      obtain ⟨xs, e⟩ := hb _ c
      exact ⟨by rw [hK]; exact lst_ty m1 q1 e, hk σ Q ω1 M1 x v [] [] H1 m1 q1 .nil r1⟩
    · rw [if_neg c] at r1
      exact r1.elim
theorem strs_rep : ∀ {xs : List D} {vs : List V} {bs : List Str}, RepL T ω xs vs → strsD xs = some bs → vs = bs.map V.str
  | _, _, bs, .nil, h => by
    simp only [strsD, Option.some.injEq] at h
    subst h
    rfl
  | _, _, bs, .cons (d := d) (ds := ds) r t, h => by
    cases d with
    | str b =>
      simp only [strsD] at h
      cases q : strsD ds with
      | none => rw [q] at h; cases h
      | some cs =>
        rw [q] at h
        simp only [Option.map_some, Option.some.injEq] at h
        subst h
        rw [strs_rep t q, r.str_inv]
        rfl
    | _ => simp [strsD] at h
theorem snd_join (hK : X.K = T.K) (hs : star1 e = false) (hc : starC ce = false) (hbase : attributeBase o "join" X.env (eval o X.env) = eval o X.env) (hline : (apos.endLine == pos.line) = true) (ho : PE X o (tD T W E co)) (he : PE X e (tD T W E ce)) :
    PE X (.Call (.Attribute o "join" apos) [e] [] pos) (tD T W E (.bm .join own co [ce])) := (pe_join ho he (starEach_c hs) hbase hline).imp fun σ H Q ⟨ω, L, M, s, m, h⟩ => by
  unfold evE at h
  refine ⟨ω, L, M, s, m, (RP.bind (R := RepD T) h).imp fun x M1 ω1 H1 v l1 m1 q1 _ r1 => ?_⟩
  by_cases c : bmK .join (view M1 x) = true
  · rw [if_pos c, evEs_c hc, res_bind_assoc] at r1
    cases ex : view M1 x with
    | str a =>
      obtain rfl := view_str ex
      obtain rfl := q1.str_inv
      refine ⟨⟨a, rfl⟩, ω1, L, M1, s.mono l1, m1, (RP.bind (R := RepD T) r1).imp fun y M2 ω2 H2 u l2 m2 q2 _ r2 => ?_⟩
      rw [evEs_nil] at r2
      simp only [Res.bind_ok, bmeth] at r2
      cases q3 : items M2 y with
      | none => rw [q3] at r2; exact r2.elim
      | some ys =>
        rw [q3] at r2
        simp only [Option.bind_some] at r2
        cases q4 : strsD ys with
        | none => rw [q4] at r2; exact r2.elim
        | some zs =>
          rw [q4] at r2
          simp only at r2
          by_cases hz : (zs.map (·.length)).sum + zs.length * a.length ≤ line
          · rw [if_pos hz] at r2
            obtain ⟨p, vs, rfl, h1, h2⟩ := m2.items q2 q3
            rw [strs_rep h2 q4, ← hK] at h1
            exact ⟨a, p, zs, rfl, rfl, h1, hz, by rw [TL.join_eq]; exact r2 ω2 H2 _ (Le.refl _) m2 (.str _)⟩
          · rw [if_neg hz] at r2
            exact r2.elim
    | _ => rw [ex] at c; cases c
  · rw [if_neg c] at r1
    exact r1.elim
end
end Lc
end

section
set_option autoImplicit false
set_option linter.all false
set_option Elab.async false
set_option maxRecDepth 100000
/-! Lc: special methods; texts of things. -/
namespace Lc
open PySem L2 PySem.Spec PyProof.Rows

section
variable {T : Tx} {W : WX} {G : Prg} {k : Nat} {X : Cx} {pos p apos : Pos} {e o a b : Expr} {es : List Expr} {ce co ca cb : CE} {cs : List CE} {x : Str} {σ : L2.St} {ω : Wd} {M : Store} {H : Hp} {own : Bool}
theorem rp_noexc {W' : WX} {σ' : L2.St} {α β : Type} {R : Wd → α → β → Prop} {r : Res α} {C : α → Store → Wd → Hp → β → Prop} (h : RP T W σ R ω (noexc r) C) : RP T W' σ' R ω (noexc r) C := by
  cases r with
  | ok a M => exact h
  | exc x M => exact h.elim
  | bad => exact h
/-- what is asked of a special method -/
def DunF (T : Tx) (G : Prg) (k : Nat) (X : Cx) (m : Str) (np : Nat) : Prop := ∀ c j, G.meth c m = some j → Cls T.K (T.cA c) ∧ PySem.W.selfFirst T.K (T.cA c) = true ∧ PySem.W.notFirst T.K (T.cA c) (.ref (T.cA c)) = true ∧ ∃ f fd ps, Meth T.K (T.cA c) m f ∧ DefOk X.prog X.w X.K X.mg X.base (4 * k) f fd ps (spF G T k j np) ∧
  ∀ (s : Shared) (us : List Value), T.K.In s.heap → us.length = np → BindsTo s fd ⟨us, []⟩ (ps.zip us)
/-- the call of a special method -/
theorem call_dun {pins : List (Addr × Obj)} {s : Shared} {A : Around} {E' : Value → Shared → Prop} {Q : VK} {f : Addr} {fd : FuncData} {ps : List Str} {j np : Nat} {us : List Value} {vs : List V} {ds : List D} (F : DefOk X.prog X.w X.K X.mg X.base (4 * k) f fd ps (spF G T k j np)) (hr : Room (4 * k) A) (hgd : A.guards = some [])
    (e0 : Env0 X.prog X.w X.K X.mg X.base A X.stack s H) (hb : ∀ (s : Shared) (us : List Value), T.K.In s.heap → us.length = np → BindsTo s fd ⟨us, []⟩ (ps.zip us)) (hK : X.K = T.K) (I : Inv X pins σ H s) (r : Vals vs us) (rl : RepL T ω ds vs) (m : RepM T ω M H) (hl : vs.length = np)
    (h : RP T WF [] (RepD T) ω (noexc (callN G k j ds M)) fun _ _ _ H' v => Q v H') : wpAny (model X.prog X.w) A (call (.ref f) us) (EP X pins σ Q) E' s := by
  refine wpAny_call (codeAny_mono (F.run A X.stack s H ⟨us, []⟩ us vs Q (fun _ _ _ => False) hr hgd e0 (hb s us (by rw [← hK]; exact I.kIn) (by rw [← r.length]; exact hl)) r ⟨hl, ω, ds, M, rl, m, ?_⟩) fun r s' out => ?_)
  · cases e2 : callN G k j ds M with
    | ok y M2 => rw [e2] at h; exact h
    | exc y M2 => rw [e2] at h; exact h.elim
    | bad => rw [e2] at h; exact h
  · rcases r with er | fl
    · obtain ⟨_, _, _, _, _, _, _, _, _, _, _, _, no⟩ := out
      exact no.elim
    · cases fl
      case ret u => exact I.after out
      all_goals exact False.elim out
/-- a special method of x, its answer taken -/
def rDun (T : Tx) (G : Prg) (k : Nat) (m : Str) (np : Nat) : V → List V → Hp → VK → Prop := fun x vs H Q => ∃ (ω : Wd) (M : Store) (d : D) (ds : List D) (c : Nat) (ns : List Str) (fs : List D) (j : Nat), RepM T ω M H ∧ RepD T ω d x ∧ RepL T ω ds vs ∧ view M d = .obj c ns fs ∧ G.meth c m = some j ∧ ds.length + 1 = np ∧
  RP T WF [] (RepD T) ω (noexc (callN G k j (d :: ds) M)) fun _ _ _ H' v => Q v H'
theorem run_dun {pins : List (Addr × Obj)} {s : Shared} {A : Around} {E' : Value → Shared → Prop} {Q : VK} {m : Str} {np : Nat} {us : List Value} {u : Value} {vs : List V} {x : V} (hm : DunF T G k X m np) (hr : Room (4 * k) A) (hgd : A.guards = some [])
    (e0 : Env0 X.prog X.w X.K X.mg X.base A X.stack s H) (hK : X.K = T.K) (I : Inv X pins σ H s) (rx : RelV x u) (r : Vals vs us) (h : rDun T G k m np x vs H Q) :
    ∃ a C f dx od, x = .ref a ∧ u = .ref a ∧ Cls X.K C ∧ PySem.W.selfFirst X.K C = true ∧ PySem.W.notFirst X.K C (.ref C) = true ∧ PySem.W.InstAt s.heap a (PySem.W.instObj C dx) C (some od) ∧ PySem.W.findIn X.K (.ref C) m = some (some (.ref f)) ∧ PySem.W.isFn X.K (.ref f) = true ∧ (∃ fs, H a = some (.ins C dx fs)) ∧
      wpAny (model X.prog X.w) A (call (.ref f) (u :: us)) (EP X pins σ Q) E' s := by
  obtain ⟨ω, M, d, ds, c, ns, fs, j, h1, h2, h3, h4, h5, h6, h7⟩ := h
  obtain ⟨a, dx, ws, rfl, ea, _, _⟩ := h1.obj h2 h4
  obtain rfl : u = Value.ref a := rx
  obtain ⟨hC, hsf, hnf, f, fd, ps, hM, F, hb⟩ := hm c j h5
  rw [← hK] at hC hsf hnf
  obtain ⟨mA, ob, _⟩ := ins_get I.hok ea
  obtain ⟨od, inst, _⟩ := ob.look
  refine ⟨a, T.cA c, f, dx, od, rfl, rfl, hC, hsf, hnf, inst, by rw [hK]; exact hM.at_, by rw [hK]; exact hM.fn, ⟨_, ea⟩, ?_⟩
  exact call_dun F hr hgd e0 hb hK I (vs := .ref a :: vs) (.cons rfl r) (.cons h2 h3) h1 (by rw [List.length_cons, ← h3.length]; exact h6) h7
theorem env_of {pins : List (Addr × Obj)} {s : Shared} (I : Inv X pins σ H s) : Env0 X.prog X.w X.K X.mg X.base X.A X.stack s H := I.env0
/-! ### in, ==, |, & -/
theorem op_inO (hm : DunF T G k X sIn 2) (hr : Room (4 * k + 3) X.A) (hgd : X.A.guards = some []) (hK : X.K = T.K) : OpR X (compareOp .In) (fun x y H Q => rDun T G k sIn 2 y [x] H fun v H' => ∃ b, v = .bl b ∧ Q (.bl b) H') := by
  intro pins s σ H x y v u Q I rx ry h
  obtain ⟨a, C, f, dx, od, rfl, rfl, _, _, _, inst, at_, fn, _, go⟩ := run_dun (E' := X.xe) hm (hr.mono (by omega)) hgd (env_of I) hK I ry (.cons rx .nil) h
  obtain ⟨mm, hF⟩ := I.fr
  refine PySem.W.in_K hF I.ok.mod.kin inst at_ fn (thn go fun w s' ⟨v', H', I', rv, b, e, q⟩ => ?_)
  subst e
  cases (show w = Value.bool b from rv)
  exact wpAny_truthy_bool ⟨.bl b, H', I', rfl, q⟩
theorem op_notInO (hm : DunF T G k X sIn 2) (hr : Room (4 * k + 3) X.A) (hgd : X.A.guards = some []) (hK : X.K = T.K) : OpR X (compareOp .NotIn) (fun x y H Q => rDun T G k sIn 2 y [x] H fun v H' => ∃ b, v = .bl b ∧ Q (.bl (!b)) H') := by
  intro pins s σ H x y v u Q I rx ry h
  obtain ⟨a, C, f, dx, od, rfl, rfl, _, _, _, inst, at_, fn, _, go⟩ := run_dun (E' := X.xe) hm (hr.mono (by omega)) hgd (env_of I) hK I ry (.cons rx .nil) h
  obtain ⟨mm, hF⟩ := I.fr
  refine PySem.W.notIn_K hF I.ok.mod.kin inst at_ fn (thn go fun w s' ⟨v', H', I', rv, b, e, q⟩ => ?_)
  subst e
  cases (show w = Value.bool b from rv)
  exact wpAny_truthy_bool ⟨.bl (!b), H', I', rfl, q⟩
theorem relv_back {v : V} {u : Value} {Qf : Value → Shared → Prop} {s' : Shared} (r : RelV v u) (q : Qf u s') : PySem.W.CmpBack Qf u s' := by
  cases v with
  | non => cases (show u = Value.none from r); exact q
  | bl b => cases (show u = Value.bool b from r); exact q
  | int i => obtain ⟨t, e⟩ := (show ∃ t, u = Value.int i t from r); cases e; exact q
  | str x => obtain ⟨t, e⟩ := (show ∃ t, u = Value.str x t from r); cases e; exact q
  | byt b => obtain ⟨t, e⟩ := (show ∃ t, u = Value.bytes b t from r); cases e; exact q
  | flt b => obtain ⟨t, e⟩ := (show ∃ t, u = Value.float b t from r); cases e; exact q
  | ref a => cases (show u = Value.ref a from r); exact q
  | ty n => cases (show u = Value.type n from r); exact q
/-- both of one class -/
def rTwo (T : Tx) (x y : V) (H : Hp) : Prop := ∃ c a dx fs b dy gs, x = .ref a ∧ y = .ref b ∧ H a = some (.ins (T.cA c) dx fs) ∧ H b = some (.ins (T.cA c) dy gs)
theorem op_binO {op : Operator} {m : Str} (he : PySem.dunder op.info.2 = m) (hm : DunF T G k X m 2) (hr : Room (4 * k + 3) X.A) (hgd : X.A.guards = some []) (hK : X.K = T.K) : OpR X (binaryOp op) (fun x y H Q => rTwo T x y H ∧ rDun T G k m 2 x [y] H Q) := by
  intro pins s σ H x y v u Q I rx ry h
  obtain ⟨⟨c, a, dx, fs, b, dy, gs, rfl, rfl, ha, hb⟩, h⟩ := h
  obtain ⟨a', C, f, dx', od, e1, rfl, _, hsf, _, inst, at_, fn, ⟨fs', ha'⟩, go⟩ := run_dun (E' := X.xe) hm (hr.mono (by omega)) hgd (env_of I) hK I rx (.cons ry .nil) h
  cases e1
  rw [ha] at ha'
  cases ha'
  obtain rfl : u = Value.ref b := ry
  obtain ⟨mB, obB, _⟩ := ins_get I.hok hb
  obtain ⟨odB, instB, _⟩ := obB.look
  obtain ⟨mm, hF⟩ := I.fr
  refine PySem.W.binop_K (op := op) hF I.ok.mod.kin inst instB.type hsf (by rw [he]; exact at_) fn (thn go fun w s' ⟨v', H', I', rv, q⟩ => relv_back rv ⟨v', H', I', rv, q⟩)
theorem op_eqO (hm : DunF T G k X sEq 2) (hr : Room (4 * k + 3) X.A) (hgd : X.A.guards = some []) (hK : X.K = T.K) : OpR X (compareOp .Eq) (fun x y H Q => rTwo T x y H ∧ rDun T G k sEq 2 x [y] H fun v H' => ∃ b, v = .bl b ∧ Q (.bl b) H') := by
  intro pins s σ H x y v u Q I rx ry h
  obtain ⟨⟨c, a, dx, fs, b, dy, gs, rfl, rfl, ha, hb⟩, h⟩ := h
  obtain ⟨a', C, f, dx', od, e1, rfl, _, _, hnf, inst, at_, fn, ⟨fs', ha'⟩, go⟩ := run_dun (E' := X.xe) hm (hr.mono (by omega)) hgd (env_of I) hK I rx (.cons ry .nil) h
  cases e1
  rw [ha] at ha'
  cases ha'
  obtain rfl : u = Value.ref b := ry
  obtain ⟨mB, obB, _⟩ := ins_get I.hok hb
  obtain ⟨odB, instB, _⟩ := obB.look
  obtain ⟨mm, hF⟩ := I.fr
  show wpAny _ _ (richCompare .Eq _ _) _ _ _
  refine PySem.W.cmp_K (op := .Eq) (tb := .ref (T.cA c)) hr.units0 hF I.ok.mod.kin inst instB.type hnf at_ fn (thn go fun w s' ⟨v', H', I', rv, b, e, q⟩ => relv_back rv ⟨v', H', I', rv, by rw [e]; exact q⟩)
/-! ### the cases -/
variable {dx dy : D} {y : V} {xv : V} {Q : VK}
theorem view_pure {d : D} {n : Nat} (h : noObj (view M d) = false) : d.pure n = false := by
  cases d with
  | obj c ns vs => cases n <;> rfl
  | loc m => cases n <;> rfl
  | _ => unfold view at h; cases h
theorem dun_of {m : Str} {j c : Nat} {ns : List Str} {fs : List D} (mm : RepM T ω M H) (rx : RepD T ω dx xv) (ry : RepD T ω dy y) (ex : view M dx = .obj c ns fs) (hj : G.meth c m = some j) {g : D → Store → Res D} {Q' : VK}
    (h : RP T W σ (RepD T) ω ((noexc (callN G k j [dx, dy] M)).bind g) fun _ _ _ H' v => Q v H') (hg : ∀ d M1 ω1 H1 v, Le ω ω1 → RepM T ω1 M1 H1 → RepD T ω1 d v → RP T W σ (RepD T) ω1 (g d M1) (fun _ _ _ H' v => Q v H') → Q' v H1) : rDun T G k m 2 xv [y] H Q' := by
  refine ⟨ω, M, dx, [dy], c, ns, fs, j, mm, rx, .cons ry .nil, ex, hj, rfl, ?_⟩
  cases q : callN G k j [dx, dy] M with
  | bad => rw [q] at h; exact h
  | exc z M1 => rw [q] at h; exact h.elim
  | ok d M1 =>
    rw [q] at h
    intro ω1 H1 v l1 m1 r1
    exact hg d M1 ω1 H1 v l1 m1 r1 (RP.le l1 h)
theorem isB_rep {d : D} {v : V} (mm : RepM T ω M H) (r : RepD T ω d v) (h : RP T W σ (RepD T) ω (isB d M) fun _ _ _ H' v => Q v H') : ∃ b, v = .bl b ∧ Q (.bl b) H := by
  cases r with
  | bl b => exact ⟨b, rfl, h ω H _ (Le.refl _) mm (.bl b)⟩
  | _ => exact h.elim
theorem notB_rep {d : D} {v : V} (mm : RepM T ω M H) (r : RepD T ω d v) (h : RP T W σ (RepD T) ω (notB d M) fun _ _ _ H' v => Q v H') : ∃ b, v = .bl b ∧ Q (.bl (!b)) H := by
  cases r with
  | bl b => exact ⟨b, rfl, h ω H _ (Le.refl _) mm (.bl _)⟩
  | _ => exact h.elim
theorem cmp_in_noL (op : COp) (ho : op = .inn ∨ op = .notIn) (h1 : noObj (view M dx) = false) (h2 : noObj (view M dy) = true) {E : Fe} : cmpE E op dx dy M = .bad := by
  have hp := fun n => view_pure (n := n) h1
  rcases ho with rfl | rfl
  all_goals
    unfold cmpE
    cases ex : view M dx with
    | obj c ns vs =>
      cases ey : view M dy with
      | obj c2 ns2 vs2 => rw [ey] at h2; cases h2
      | _ => simp [cmpop, ey, hp]
    | _ => rw [ex] at h1; cases h1
theorem opK_in (hm : DunF T G k X sIn 2) (hr : Room (4 * k + 3) X.A) (hgd : X.A.guards = some []) (hu : X.A.units + 65 < cLine) (hK : X.K = T.K) : OpK T W (feOf G k) X .In .inn := by
  refine ⟨_, (op_inA hu).or (op_inO hm hr hgd hK), fun σ Q ω M dx dy x y H m rx ry h => ?_⟩
  rw [hK]
  cases c2 : noObj (view M dy) with
  | true =>
    cases c1 : noObj (view M dx) with
    | true => exact .inl (k_in c2 c1 m rx ry h)
    | false => rw [cmp_in_noL .inn (.inl rfl) c1 c2] at h; exact h.elim
  | false =>
    cases ey : view M dy with
    | obj c ns fs =>
      refine .inr ?_
      have e : cmpE (feOf G k) .inn dx dy M = match G.meth c sIn with | some f => (noexc (callN G k f [dy, dx] M)).bind isB | none => .bad := by unfold cmpE; rw [ey]; rfl
      rw [e] at h
      cases q : G.meth c sIn with
      | none => rw [q] at h; exact h.elim
      | some j => rw [q] at h; exact dun_of m ry rx ey q h fun d M1 ω1 H1 v l1 m1 r1 z => isB_rep m1 r1 z
    | _ => rw [ey] at c2; cases c2
theorem opK_notIn (hm : DunF T G k X sIn 2) (hr : Room (4 * k + 3) X.A) (hgd : X.A.guards = some []) (hu : X.A.units + 65 < cLine) (hK : X.K = T.K) : OpK T W (feOf G k) X .NotIn .notIn := by
  refine ⟨_, (op_notInA hu).or (op_notInO hm hr hgd hK), fun σ Q ω M dx dy x y H m rx ry h => ?_⟩
  rw [hK]
  cases c2 : noObj (view M dy) with
  | true =>
    cases c1 : noObj (view M dx) with
    | true => exact .inl (k_notIn c2 c1 m rx ry h)
    | false => rw [cmp_in_noL .notIn (.inr rfl) c1 c2] at h; exact h.elim
  | false =>
    cases ey : view M dy with
    | obj c ns fs =>
      refine .inr ?_
      have e : cmpE (feOf G k) .notIn dx dy M = match G.meth c sIn with | some f => (noexc (callN G k f [dy, dx] M)).bind notB | none => .bad := by unfold cmpE; rw [ey]; rfl
      rw [e] at h
      cases q : G.meth c sIn with
      | none => rw [q] at h; exact h.elim
      | some j => rw [q] at h; exact dun_of m ry rx ey q h fun d M1 ω1 H1 v l1 m1 r1 z => notB_rep m1 r1 z
    | _ => rw [ey] at c2; cases c2
theorem two_of {c : Nat} {ns ns' : List Str} {fs fs' : List D} (m : RepM T ω M H) (rx : RepD T ω dx xv) (ry : RepD T ω dy y) (ex : view M dx = .obj c ns fs) (ey : view M dy = .obj c ns' fs') : rTwo T xv y H := by
  obtain ⟨a, d1, w1, rfl, h1, _⟩ := m.obj rx ex
  obtain ⟨b, d2, w2, rfl, h2, _⟩ := m.obj ry ey
  exact ⟨c, a, d1, _, b, d2, _, rfl, rfl, h1, h2⟩
end
end Lc
end

section
set_option autoImplicit false
set_option linter.all false
set_option Elab.async false
set_option maxRecDepth 100000
/-! Lc: the operators whole; len, str, repr; f-strings; isinstance. -/
namespace Lc
open PySem L2 PySem.Spec PyProof.Rows
section
variable {T : Tx} {W : WX} {G : Prg} {k : Nat} {X : Cx} {pos p apos : Pos} {e o a b : Expr} {es : List Expr} {ce co ca cb : CE} {cs : List CE} {x : Str} {σ : L2.St} {ω : Wd} {M : Store} {H : Hp} {own : Bool} {dx dy : D} {y xv : V} {Q : VK}
theorem cmpop_obj (op : COp) (ho : op = .eq ∨ op = .ne) (h : noObj (view M dx) = false ∨ noObj (view M dy) = false) : cmpop op dx dy M = .bad := by
  have key : ((view M dx).pure flatN && (view M dy).pure flatN) = false := by
    rcases h with h | h
    · have : (view M dx).pure flatN = false := by
        cases e : view M dx with
        | obj c ns vs => rfl
        | _ => rw [e] at h; cases h
      rw [this, Bool.false_and]
    · have : (view M dy).pure flatN = false := by
        cases e : view M dy with
        | obj c ns vs => rfl
        | _ => rw [e] at h; cases h
      rw [this, Bool.and_false]
  rcases ho with rfl | rfl
  all_goals
    simp only [cmpop]
    rw [if_neg (by rw [key]; exact Bool.false_ne_true)]
theorem opK_eq (hm : DunF T G k X sEq 2) (hr : Room (4 * k + 3) X.A) (hgd : X.A.guards = some []) (hK : X.K = T.K) {r : R2} (ho : OpR X (compareOp .Eq) r) (hr2 : ∀ x y H Q, rEqD T.K x y H Q → r x y H Q) : OpK T W (feOf G k) X .Eq .eq := by
  refine ⟨_, ho.or (op_eqO hm hr hgd hK), fun σ Q ω M dx dy x y H m rx ry h => ?_⟩
  cases c1 : noObj (view M dx) with
  | true =>
    cases c2 : noObj (view M dy) with
    | true => exact .inl (hr2 _ _ _ _ (k_eq c1 c2 m rx ry h))
    | false =>
      have e : cmpE (feOf G k) .eq dx dy M = cmpop .eq dx dy M := by
        unfold cmpE
        cases ex : view M dx with
        | obj c ns vs => rw [ex] at c1; cases c1
        | _ => rfl
      rw [e, cmpop_obj .eq (.inl rfl) (.inr c2)] at h
      exact h.elim
  | false =>
    cases ex : view M dx with
    | obj c ns fs =>
      cases ey : view M dy with
      | obj c' ns' fs' =>
        have e : cmpE (feOf G k) .eq dx dy M = if c = c' then (match G.meth c sEq with | some f => (noexc (callN G k f [dx, dy] M)).bind isB | none => .bad) else .bad := by unfold cmpE; rw [ex, ey]; rfl
        rw [e] at h
        by_cases hc : c = c'
        · subst hc
          rw [if_pos rfl] at h
          cases q : G.meth c sEq with
          | none => rw [q] at h; exact h.elim
          | some j =>
            rw [q] at h
            exact .inr ⟨two_of m rx ry ex ey, dun_of m rx ry ex q h fun d M1 ω1 H1 v l1 m1 r1 z => isB_rep m1 r1 z⟩
        · rw [if_neg hc] at h; exact h.elim
      | _ =>
        have e : cmpE (feOf G k) .eq dx dy M = cmpop .eq dx dy M := by unfold cmpE; rw [ex, ey]
        rw [e, cmpop_obj .eq (.inl rfl) (.inl c1)] at h
        exact h.elim
    | _ => rw [ex] at c1; cases c1
theorem opK_ne {r : R2} (ho : OpR X (compareOp .NotEq) r) (hr2 : ∀ x y H Q, rNeD T.K x y H Q → r x y H Q) : OpK T W (feOf G k) X .NotEq .ne := by
  refine ⟨_, ho, fun σ Q ω M dx dy x y H m rx ry h => ?_⟩
  cases c1 : noObj (view M dx) with
  | true =>
    cases c2 : noObj (view M dy) with
    | true => exact hr2 _ _ _ _ (k_ne c1 c2 m rx ry h)
    | false =>
      have e : cmpE (feOf G k) .ne dx dy M = cmpop .ne dx dy M := by unfold cmpE; cases view M dx <;> rfl
      rw [e, cmpop_obj .ne (.inr rfl) (.inr c2)] at h
      exact h.elim
  | false =>
    have e : cmpE (feOf G k) .ne dx dy M = cmpop .ne dx dy M := by unfold cmpE; cases view M dx <;> rfl
    rw [e, cmpop_obj .ne (.inr rfl) (.inl c1)] at h
    exact h.elim
theorem binop_none (op : BOp) (ho : op = .or ∨ op = .and) : binop op own dx dy M = .bad := by
  rcases ho with rfl | rfl <;> rfl
theorem snd_binO {op : Operator} {bop : BOp} {m : Str} (hb : (op = .BitOr ∧ bop = .or ∧ m = sOr) ∨ (op = .BitAnd ∧ bop = .and ∧ m = sAnd)) (hm : DunF T G k X m 2) (hr : Room (4 * k + 3) X.A) (hgd : X.A.guards = some []) (hK : X.K = T.K)
    (ha : PE X a (tD T W (feOf G k) ca)) (hb' : PE X b (tD T W (feOf G k) cb)) : PE X (.BinOp a op b pos) (tD T W (feOf G k) (.bin bop own ca cb)) := by
  have he : PySem.dunder op.info.2 = m := by
    rcases hb with ⟨rfl, rfl, rfl⟩ | ⟨rfl, rfl, rfl⟩ <;> rfl
  refine snd_bin (op_binO he hm hr hgd hK) (fun σ Q ω M dx dy x y H mm rx ry h => ?_) ha hb'
  cases ex : view M dx with
  | obj c ns fs =>
    cases ey : view M dy with
    | obj c' ns' fs' =>
      have e : binE (feOf G k) bop own dx dy M = if c = c' then (match G.meth c m with | some f => noexc (callN G k f [dx, dy] M) | none => .bad) else .bad := by
        rcases hb with ⟨_, rfl, rfl⟩ | ⟨_, rfl, rfl⟩ <;> (unfold binE; rw [ex, ey]; rfl)
      rw [e] at h
      by_cases hc : c = c'
      · subst hc
        rw [if_pos rfl] at h
        cases q : G.meth c m with
        | none => rw [q] at h; exact h.elim
        | some j =>
          rw [q] at h
          refine ⟨two_of mm rx ry ex ey, ω, M, dx, [dy], c, ns, fs, j, mm, rx, .cons ry .nil, ex, q, rfl, rp_noexc h⟩
      · rw [if_neg hc] at h; exact h.elim
    | _ =>
      have e : binE (feOf G k) bop own dx dy M = .bad := by
        rcases hb with ⟨_, rfl, rfl⟩ | ⟨_, rfl, rfl⟩ <;> (unfold binE; rw [ex, ey]; rfl)
      rw [e] at h
      exact h.elim
  | _ =>
    have e : binE (feOf G k) bop own dx dy M = .bad := by
      rcases hb with ⟨_, rfl, rfl⟩ | ⟨_, rfl, rfl⟩ <;> (unfold binE; rw [ex]; rfl)
    rw [e] at h
    exact h.elim
/-! ### len -/
theorem cr_lenO (hm : DunF T G k X sLen 1) (hr : Room (4 * k + 3) X.A) (hgd : X.A.guards = some []) (hK : X.K = T.K) : CallR X (.builtin "len") (fun xs H Q => ∃ x, xs = [x] ∧ rDun T G k sLen 1 x [] H fun v H' => ∃ n : Int, v = .int n ∧ (0 ≤ n ∧ n < 4611686018427387904) ∧ Q (.int n) H') := by
  intro pins s σ H xs us Q I r h
  obtain ⟨x, rfl, h⟩ := h
  obtain ⟨u, rfl, ru⟩ := r.one
  obtain ⟨a, C, f, dx, od, rfl, rfl, _, _, _, inst, at_, fn, _, go⟩ := run_dun (A := X.A.in1) (E' := X.xe) hm ((hr.mono (by omega : 4 * k + 1 ≤ 4 * k + 3)).in1) hgd (env_of I).in1 hK I ru .nil h
  obtain ⟨mm, hF⟩ := I.fr
  refine PySem.W.len_K hF I.ok.mod.kin inst at_ fn (thn go fun w s' ⟨v', H', I', rv, n, e, hn, q⟩ => ?_)
  subst e
  obtain ⟨t, e⟩ := (show ∃ t, w = Value.int n t from rv)
  cases e
  exact ⟨⟨hn.1, by omega⟩, .int n, H', I'.tok _, ⟨_, rfl⟩, q⟩
theorem cr_reprO (hm : DunF T G k X sRepr 1) (hr : Room (4 * k + 3) X.A) (hgd : X.A.guards = some []) (hK : X.K = T.K) : CallR X (.builtin "repr") (fun xs H Q => ∃ x, xs = [x] ∧ rDun T G k sRepr 1 x [] H fun v H' => ∃ y, v = .str y ∧ Q (.str y) H') := by
  intro pins s σ H xs us Q I r h
  obtain ⟨x, rfl, h⟩ := h
  obtain ⟨u, rfl, ru⟩ := r.one
  obtain ⟨a, C, f, dx, od, rfl, rfl, _, _, _, inst, at_, fn, _, go⟩ := run_dun (A := X.A.in1) (E' := X.xe) hm ((hr.mono (by omega : 4 * k + 1 ≤ 4 * k + 3)).in1) hgd (env_of I).in1 hK I ru .nil h
  obtain ⟨mm, hF⟩ := I.fr
  refine PySem.W.repr_K ((hr.mono (by omega : 4 * k + 1 ≤ 4 * k + 3)).in1.units0) hF I.ok.mod.kin inst at_ fn (thn go fun w s' ⟨v', H', I', rv, y, e, q⟩ => ?_)
  subst e
  obtain ⟨t, e⟩ := (show ∃ t, w = Value.str y t from rv)
  cases e
  exact ⟨.str y, H', I', ⟨_, rfl⟩, q⟩
/-! ### texts of data -/
mutual
theorem pd_noDict : ∀ d : D, PyData.hasDict d.pd = false
  | .non => rfl | .bl _ => rfl | .int _ => rfl | .str _ => rfl
  | .tup xs => by unfold D.pd PyData.hasDict; exact pd_noDictL xs
  | .lst xs => by unfold D.pd PyData.hasDict; exact pd_noDictL xs
  | .dic _ _ => rfl | .obj _ _ _ => rfl | .loc _ => rfl | .cls _ => rfl
theorem pd_noDictL : ∀ ds : List D, PyData.hasDictAll (D.pdL ds) = false
  | [] => rfl
  | d :: ds => by unfold D.pdL PyData.hasDictAll; rw [pd_noDict d, pd_noDictL ds]; rfl
end
def rShow (K : PySem.W.Frag) : List V → Hp → VK → Prop := fun xs H Q => ∃ a d, xs = [.ref a] ∧ Dp K H (.ref a) d ∧ PyData.showable d = true ∧ PyData.hasDict d = false ∧ d.depth ≤ 64 ∧ d.shown.length ≤ sizeLine ∧ Q (.str d.shown) H
theorem cr_strD (hgd : X.A.guards = some []) (hu : X.A.units + 70 < cLine) : CallR X (.type "str") (rShow X.K) := by
  intro pins s σ H xs us Q I r h
  obtain ⟨a, d, rfl, h1, h2, h3, h4, h5, q⟩ := h
  obtain ⟨u, rfl, ru⟩ := r.one
  obtain rfl : u = Value.ref a := ru
  obtain ⟨as, rd⟩ := Dp.reads I d _ _ h1 rfl
  exact str_of_reads rd h2 (fun z => by rw [h3] at z; cases z) hgd (by omega) (fun _ _ z => z) (fun h' u tk hk => ⟨.str d.shown, H, I.kept hk, ⟨u, rfl⟩, q⟩) h5
theorem cr_reprD (hgd : X.A.guards = some []) (hu : X.A.units + 70 < cLine) : CallR X (.builtin "repr") (rShow X.K) := by
  intro pins s σ H xs us Q I r h
  obtain ⟨a, d, rfl, h1, h2, h3, h4, h5, q⟩ := h
  obtain ⟨u, rfl, ru⟩ := r.one
  obtain rfl : u = Value.ref a := ru
  obtain ⟨as, rd⟩ := Dp.reads I d _ _ h1 rfl
  exact repr_of_reads' rd h2 (fun z => by rw [h3] at z; cases z) hgd (by omega) (fun _ _ z => z) (fun h' u tk hk => ⟨.str d.shown, H, I.kept hk, ⟨u, rfl⟩, q⟩) h5
end
end Lc
end

section
set_option autoImplicit false
set_option linter.all false
set_option Elab.async false
set_option maxRecDepth 100000
/-! Lc: str of own objects; the built-in functions' cases; f-strings. -/
namespace Lc
open PySem L2 PySem.Spec PyProof.Rows
section
variable {T : Tx} {W : WX} {G : Prg} {k : Nat} {X : Cx} {pos p apos : Pos} {e o a b : Expr} {es : List Expr} {ce co ca cb : CE} {cs : List CE} {x : Str} {σ : L2.St} {ω : Wd} {M : Store} {H : Hp} {own : Bool} {dx dy : D} {y xv : V} {Q : VK} {E : Fe}
open Builtin Builtin.Str in
/-- str(x), the class with its own __str__ -/
theorem str_own {A : Around} {E' : Value → Shared → Prop} {s : Shared} {K : PySem.W.Frag} {x C f : Addr} {ox : Obj} {od : Option Obj} {Q : Value → Shared → Prop} {prog : Program} {w : World} (room : A.in1.in1.units < cLine) (inK : K.In s.heap) (inst : PySem.W.InstAt s.heap x ox C od)
    (at_ : PySem.W.findIn K (.ref C) "__str__" = some (some (.ref f))) (fn : PySem.W.isFn K (.ref f) = true) (go : wpAny (model prog w) A.in1.in1 (call (.ref f) [.ref x]) (PySem.W.StrBack Q) E' s) : wpAny (model prog w) A (call (.type "str") [.ref x]) Q E' s := by
  have told : wpAny (model prog w) A.in1.in1 (PySem.Builtin.Str.strOf (.ref x)) (fun r s1 => ∃ y u, r = .str y u ∧ Q r s1) E' s := by
    unfold PySem.Builtin.Str.strOf
    rw [show isExactStr (.ref x) = false from rfl]
    refine wpAny_bind (m := cRoomFor _ _) (wpAny_cRoomFor room (wpAny_bind (m := callSpecial? (.ref x) (Str.ofString "__str__")) (PySem.W.special_fn inK inst at_ (beq_iff_eq.mp fn) (wpAny_mono go (fun r s1 out => ?_) fun _ _ z => z))))
    cases r <;> first | exact out.elim | exact wpAny_pure ⟨_, _, rfl, out⟩
  refine callType_codes (T := "str") (Bi := Builtin.«object.__init__») (Q₁ := fun r s1 => ∃ y u, r = .str y u ∧ Q r s1) PySem.F.called_str (PySem.F.typeCall_str_1 _) PySem.F.entry_object_init (codeAny_of_tree ?_) ?_
  · show wpAny _ A.in1.in1 (do checkBuiltinCall "str.__new__" ⟨[.type "str", .ref x], []⟩; again (.builtin "str.__new__" ⟨[.type "str", .ref x], []⟩)) _ _ s
    refine wpAny_bind (wpAny_of_eq (PySem.F.newCall_str_1 _) (wpAny_pure ⟨plainId_quiet (by decide +kernel) _, codeAny_builtin PySem.F.entry_str_new ?_⟩))
    rw [Around.under_plainId (by decide +kernel) _, str_new_tree]
    exact wpAny_bind (wpAny_pure (wpAny_bind (wpAny_of_eq isSubtype_str_str (wpAny_bind (wpAny_mono told (fun _ _ out => wpAny_pure out) fun _ _ z => z)))))
  · rintro obj s1 ⟨y, u, rfl, q⟩
    exact ⟨typeIs_str _ _ _, PySem.F.args_object_init_2 _ _, object_init_meets PySem.F.called_str.init.lookup PySem.F.called_str.made (by decide) prog w A.in1 _ s1 ⟨typeIs_str _ _ _, rfl, q⟩⟩
theorem cr_strO (hm : DunF T G k X sStr 1) (hr : Room (4 * k + 3) X.A) (hgd : X.A.guards = some []) (hK : X.K = T.K) : CallR X (.type "str") (fun xs H Q => ∃ x, xs = [x] ∧ rDun T G k sStr 1 x [] H fun v H' => ∃ y, v = .str y ∧ Q (.str y) H') := by
  intro pins s σ H xs us Q I r h
  obtain ⟨x, rfl, h⟩ := h
  obtain ⟨u, rfl, ru⟩ := r.one
  have room2 : Room (4 * k) X.A.in1.in1 := ((hr.mono (by omega : 4 * k + 2 ≤ 4 * k + 3)).in1).in1
  obtain ⟨a, C, f, dx, od, rfl, rfl, _, _, _, inst, at_, fn, _, go⟩ := run_dun (A := X.A.in1.in1) (E' := X.xe) hm room2 hgd (env_of I).in1.in1 hK I ru .nil h
  refine str_own room2.units0 I.kIn inst at_ fn (thn go fun w s' ⟨v', H', I', rv, y, e, q⟩ => ?_)
  subst e
  obtain ⟨t, e⟩ := (show ∃ t, w = Value.str y t from rv)
  cases e
  exact ⟨.str y, H', I', ⟨_, rfl⟩, q⟩
/-! ### the cases -/
theorem dun1_of {m : Str} {j c : Nat} {ns : List Str} {fs : List D} (mm : RepM T ω M H) (rx : RepD T ω dx xv) (ex : view M dx = .obj c ns fs) (hj : G.meth c m = some j) {g : D → Store → Res D} {Q' : VK}
    (h : RP T W σ (RepD T) ω ((noexc (callN G k j [dx] M)).bind g) fun _ _ _ H' v => Q v H') (hg : ∀ d M1 ω1 H1 v, Le ω ω1 → RepM T ω1 M1 H1 → RepD T ω1 d v → RP T W σ (RepD T) ω1 (g d M1) (fun _ _ _ H' v => Q v H') → Q' v H1) : rDun T G k m 1 xv [] H Q' := by
  refine ⟨ω, M, dx, [], c, ns, fs, j, mm, rx, .nil, ex, hj, rfl, ?_⟩
  cases q : callN G k j [dx] M with
  | bad => rw [q] at h; exact h
  | exc z M1 => rw [q] at h; exact h.elim
  | ok d M1 =>
    rw [q] at h
    intro ω1 H1 v l1 m1 r1
    exact hg d M1 ω1 H1 v l1 m1 r1 (RP.le l1 h)
theorem strB_rep {d : D} {v : V} (mm : RepM T ω M H) (r : RepD T ω d v) (h : RP T W σ (RepD T) ω (strB d M) fun _ _ _ H' v => Q v H') : ∃ y, v = .str y ∧ Q (.str y) H := by
  cases r with
  | str y => exact ⟨y, rfl, h ω H _ (Le.refl _) mm (.str y)⟩
  | _ => exact h.elim
theorem lenB_rep {d : D} {v : V} (mm : RepM T ω M H) (r : RepD T ω d v) (h : RP T W σ (RepD T) ω (lenB d M) fun _ _ _ H' v => Q v H') : ∃ n : Int, v = .int n ∧ (0 ≤ n ∧ n < 4611686018427387904) ∧ Q (.int n) H := by
  cases r with
  | int n =>
    have h : RP T W σ (RepD T) ω (if 0 ≤ n ∧ n < 4611686018427387904 then .ok (.int n) M else .bad) (fun _ _ _ H' v => Q v H') := h
    by_cases c : 0 ≤ n ∧ n < 4611686018427387904
    · rw [if_pos c] at h
      exact ⟨n, rfl, c, h ω H _ (Le.refl _) mm (.int n)⟩
    · rw [if_neg c] at h
      exact h.elim
  | _ => exact h.elim
/-- by one argument: an own object, or what is plain -/
theorem fk_obj {f : BF} {m : Str} {g : D → Store → Res D} {r : List V → Hp → VK → Prop} (hf : ∀ c ns fs d M, view M d = .obj c ns fs → bfD (feOf G k) f own [d] M = match G.meth c m with | some j => (noexc (callN G k j [d] M)).bind g | none => .bad)
    (hp : ∀ d M, noObj (view M d) = true → bfD (feOf G k) f own [d] M = bfun f own [d] M) (hb : ∀ ds M, (∀ d, ds ≠ [d]) → bfD (feOf G k) f own ds M = .bad) (hk : FnKp T W f own r) {C : V → Prop} {Q2 : VK → VK}
    (hg : ∀ σ ω Q d M H v, RepM T ω M H → RepD T ω d v → RP T W σ (RepD T) ω (g d M) (fun _ _ _ H' v => Q v H') → Q2 Q v H) :
    FnK T W (feOf G k) f own (fun xs H Q => r xs H Q ∨ ∃ x, xs = [x] ∧ rDun T G k m 1 x [] H (Q2 Q)) := fk_one hb fun σ Q ω M d v H mm rv h => by
  cases c : noObj (view M d) with
  | true =>
    rw [hp d M c] at h
    exact .inl (hk σ Q ω M [d] [v] H mm (.cons rv .nil) h)
  | false =>
    cases ex : view M d with
    | obj cc ns fs =>
      rw [hf cc ns fs d M ex] at h
      cases q : G.meth cc m with
      | none => rw [q] at h; exact h.elim
      | some j => rw [q] at h; exact .inr ⟨v, rfl, dun1_of mm rv ex q h fun d M1 ω1 H1 v l1 m1 r1 z => hg σ ω1 Q d M1 H1 v m1 r1 z⟩
    | _ => rw [ex] at c; cases c
theorem one_bad {f : BF} (hf : f = .len ∨ f = .str ∨ f = .repr) : ∀ ds M, (∀ d, ds ≠ [d]) → bfD E f own ds M = .bad := fun ds M h => by
  cases ds with
  | nil => rcases hf with rfl | rfl | rfl <;> rfl
  | cons d ds => cases ds with
    | nil => exact absurd rfl (h d)
    | cons _ _ => rcases hf with rfl | rfl | rfl <;> rfl
theorem one_plain {f : BF} (hf : f = .len ∨ f = .str ∨ f = .repr) : ∀ d M, noObj (view M d) = true → bfD E f own [d] M = bfun f own [d] M := fun d M h => by
  rcases hf with rfl | rfl | rfl <;> (cases ex : view M d with | obj c ns vs => (rw [ex] at h; cases h) | _ => simp only [bfD, ex])
theorem fk_lenA : FnK T W (feOf G k) .len own (fun xs H Q => (∃ x n, xs = [x] ∧ LenV T.K x H n ∧ Q (.int n) H) ∨ ∃ x, xs = [x] ∧ rDun T G k sLen 1 x [] H fun v H' => ∃ n : Int, v = .int n ∧ (0 ≤ n ∧ n < 4611686018427387904) ∧ Q (.int n) H') :=
  fk_obj (C := fun _ => True) (Q2 := fun Q v H' => ∃ n : Int, v = .int n ∧ (0 ≤ n ∧ n < 4611686018427387904) ∧ Q (.int n) H') (m := sLen) (g := lenB) (fun c ns fs d M ex => by simp only [bfD, ex]; rfl) (one_plain (.inl rfl)) (one_bad (.inl rfl)) fk_len (fun σ ω Q d M H v m r h => lenB_rep m r h)
def rText (K : PySem.W.Frag) : List V → Hp → VK → Prop := fun xs H Q => (∃ i, xs = [.int i] ∧ i.natAbs.log2 < 1920 ∧ Q (.str (toString i)) H) ∨ rShow K xs H Q
theorem show_rep {d : D} {v : V} {xs : List D} (hx : view M d = .tup xs ∨ view M d = .lst xs) (m : RepM T ω M H) (r : RepD T ω d v) (h : showOk (view M d) = true) (q : Q (.str (PyData.shown (view M d).pd)) H) : rShow T.K [v] H Q := by
  unfold showOk at h
  simp only [Bool.and_eq_true, decide_eq_true_eq, Bool.not_eq_true'] at h
  obtain ⟨⟨⟨h1, h2⟩, h3⟩, h4⟩ := h
  have dp := dpv_of m r h1
  obtain ⟨a, rfl⟩ : ∃ a, v = .ref a := by
    rcases hx with e | e
    · obtain ⟨a, _, rfl, _⟩ := m.tup r e; exact ⟨a, rfl⟩
    · obtain ⟨a, _, rfl, _⟩ := m.lst r e; exact ⟨a, rfl⟩
  exact ⟨a, _, rfl, dp, h2, h3, Nat.le_trans (pure_lay h1).2 (by decide), h4, q⟩
theorem fk_text {f : BF} (hf : f = .str ∨ f = .repr) : FnKp T W f own (rText T.K) := by
  have e : ∀ d M, bfun f own [d] M = match view M d with
      | .int i => if i.natAbs.log2 < 1920 then .ok (.str (toString i)) M else .bad
      | .tup xs => if showOk (.tup xs) then .ok (.str (PyData.shown (D.pd (.tup xs)))) M else .bad
      | .lst xs => if showOk (.lst xs) then .ok (.str (PyData.shown (D.pd (.lst xs)))) M else .bad
      | _ => .bad := fun d M => by rcases hf with rfl | rfl <;> rfl
  refine fp_one (fun ds M n => ?_) fun σ Q ω M d v H m rv h => ?_
  · cases ds with
    | nil => rcases hf with rfl | rfl <;> rfl
    | cons d ds => cases ds with
      | nil => exact absurd rfl (n d)
      | cons _ _ => rcases hf with rfl | rfl <;> rfl
  · rw [e] at h
    cases ex : view M d with
    | int i =>
      rw [ex] at h
      obtain rfl := view_int ex
      simp only at h
      by_cases c : i.natAbs.log2 < 1920
      · rw [if_pos c] at h
        exact .inl ⟨i, by rw [rv.int_inv], c, h ω H _ (Le.refl _) m (.str _)⟩
      · rw [if_neg c] at h; exact h.elim
    | tup xs =>
      rw [ex] at h
      simp only at h
      by_cases c : showOk (.tup xs) = true
      · rw [if_pos c] at h
        exact .inr (show_rep (.inl ex) m rv (by rw [ex]; exact c) (by rw [ex]; exact h ω H _ (Le.refl _) m (.str _)))
      · rw [if_neg c] at h; exact h.elim
    | lst xs =>
      rw [ex] at h
      simp only at h
      by_cases c : showOk (.lst xs) = true
      · rw [if_pos c] at h
        exact .inr (show_rep (.inr ex) m rv (by rw [ex]; exact c) (by rw [ex]; exact h ω H _ (Le.refl _) m (.str _)))
      · rw [if_neg c] at h; exact h.elim
    | _ => rw [ex] at h; exact h.elim
theorem fk_strA : FnK T W (feOf G k) .str own (fun xs H Q => rText T.K xs H Q ∨ ∃ x, xs = [x] ∧ rDun T G k sStr 1 x [] H fun v H' => ∃ y, v = .str y ∧ Q (.str y) H') :=
  fk_obj (C := fun _ => True) (Q2 := fun Q v H' => ∃ y, v = .str y ∧ Q (.str y) H') (m := sStr) (g := strB) (fun c ns fs d M ex => by simp only [bfD, ex]; rfl) (one_plain (.inr (.inl rfl))) (one_bad (.inr (.inl rfl))) (fk_text (.inl rfl)) (fun σ ω Q d M H v m r h => strB_rep m r h)
theorem fk_reprA : FnK T W (feOf G k) .repr own (fun xs H Q => rText T.K xs H Q ∨ ∃ x, xs = [x] ∧ rDun T G k sRepr 1 x [] H fun v H' => ∃ y, v = .str y ∧ Q (.str y) H') :=
  fk_obj (C := fun _ => True) (Q2 := fun Q v H' => ∃ y, v = .str y ∧ Q (.str y) H') (m := sRepr) (g := strB) (fun c ns fs d M ex => by simp only [bfD, ex]; rfl) (one_plain (.inr (.inr rfl))) (one_bad (.inr (.inr rfl))) (fk_text (.inr rfl)) (fun σ ω Q d M H v m r h => strB_rep m r h)
/-! ### f-strings -/
def tFm (T : Tx) (W : WX) (E : Fe) (ce : CE) : TE := fun σ H Q => ∃ (ω : Wd) (L : Lc.Loc) (M : Store), RepS T ω L σ ∧ RepM T ω M H ∧ RP T W σ (RepD T) ω (evE E ce L M) fun d _ _ H' _ => ∃ y, fmtT d = some y ∧ Q (.str y) H'
theorem snd_fmt1 (he : PE X e (tD T W E ce)) : PE X (.FormattedValue e (-1) none pos) (tFm T W E ce) := (pe_fmt he).imp fun σ H Q ⟨ω, L, M, s, m, h⟩ => by
  refine ⟨ω, L, M, s, m, h.imp fun d M1 ω1 H1 v l1 m1 q1 _ ⟨y, e, q⟩ => ?_⟩
  unfold fmtT at e
  cases q1 with
  | str z =>
    simp only at e
    by_cases c : z.length ≤ line
    · rw [if_pos c] at e
      cases e
      exact .inl ⟨_, rfl, c, q⟩
    · rw [if_neg c] at e; cases e
  | int i =>
    simp only at e
    by_cases c : i.natAbs.log2 < 1920
    · rw [if_pos c] at e
      cases e
      exact .inr ⟨i, rfl, c, q⟩
    · rw [if_neg c] at e; cases e
  | _ => cases e
theorem snd_fmtC {z : Str} {j : Nat} : PE X (.Constant (.str z) j pos) (tFm T W E (.lit (.str z))) := pe_str.imp fun σ H Q ⟨ω, L, M, s, m, h⟩ => by
  unfold evE at h
  obtain ⟨y, e, q⟩ := h ω H _ (Le.refl _) m (.str z)
  unfold fmtT at e
  simp only at e
  by_cases c : z.length ≤ line
  · rw [if_pos c] at e
    cases e
    exact q
  · rw [if_neg c] at e; cases e
theorem fm_read : ∀ {cs : List CE} {σ : L2.St} {H : Hp} {acc : Str} {ω : Wd} {L : Lc.Loc} {M : Store} {Q : Str → Hp → Prop}, RepS T ω L σ → RepM T ω M H → RP T W σ (RepD T) ω (evFm E cs L M acc) (fun d _ _ H' _ => ∃ y, d = .str y ∧ Q y H') → tJs (cs.map (tFm T W E)) acc σ H Q
  | [], σ, H, acc, ω, L, M, Q, s, m, h => by
    rw [evFm] at h
    obtain ⟨y, e, q⟩ := h ω H _ (Le.refl _) m (.str acc)
    cases e
    exact q
  | c :: cs, σ, H, acc, ω, L, M, Q, s, m, h => by
    rw [evFm] at h
    refine ⟨ω, L, M, s, m, (RP.bind (R := RepD T) h).imp fun d M1 ω1 H1 v l1 m1 q1 _ r1 => ?_⟩
    cases e : fmtT d with
    | none => rw [e] at r1; exact r1.elim
    | some y =>
      rw [e] at r1
      simp only at r1
      by_cases hz : (acc ++ y).length ≤ line
      · rw [if_pos hz] at r1
        exact ⟨y, rfl, y, rfl, hz, fm_read (s.mono l1) m1 r1⟩
      · rw [if_neg hz] at r1; exact r1.elim
theorem fm_str : ∀ {cs : List CE} {L : Lc.Loc} {M M' : Store} {acc : Str} {d : D}, evFm E cs L M acc = .ok d M' → ∃ y, d = .str y
  | [], L, M, M', acc, d, h => by
    rw [evFm] at h
    cases h
    exact ⟨_, rfl⟩
  | c :: cs, L, M, M', acc, d, h => by
    rw [evFm] at h
    cases q : evE E c L M with
    | ok x M1 =>
      rw [q] at h
      simp only [Res.bind_ok] at h
      cases q2 : fmtT x with
      | none => rw [q2] at h; cases h
      | some y =>
        rw [q2] at h
        simp only at h
        by_cases hz : (acc ++ y).length ≤ line
        · rw [if_pos hz] at h; exact fm_str h
        · rw [if_neg hz] at h; cases h
    | exc x M1 => rw [q] at h; cases h
    | bad => rw [q] at h; cases h
theorem snd_fmt {v1 v2 : Expr} {rest : List Expr} {cs : List CE} (h : PJ X (v1 :: v2 :: rest) (cs.map (tFm T W E))) : PE X (.JoinedStr (v1 :: v2 :: rest) pos) (tD T W E (.fmt cs)) := (pe_joined h).imp fun σ H Q ⟨ω, L, M, s, m, h⟩ => by
  unfold evE at h
  refine fm_read s m (h.imp fun d M1 ω1 H1 v l1 m1 q1 e q => ?_)
  obtain ⟨y, rfl⟩ := fm_str e
  obtain rfl := q1.str_inv
  exact ⟨y, rfl, q⟩
end
end Lc
end

section
set_option autoImplicit false
set_option linter.all false
set_option Elab.async false
set_option maxRecDepth 100000
/-! Lc: bool(..). -/
namespace Lc
open PySem L2 PySem.Spec PyProof.Rows
section
variable {prog : Program} {w : World} {A : Around} {E' : Value → Shared → Prop} {s : Shared} {K : PySem.W.Frag} {x C f : Addr} {ox : Obj} {od : Option Obj}
/-- truth by __len__ -/
theorem truth_len {Q : Bool → Shared → Prop} (inK : K.In s.heap) (I : PySem.W.InstAt s.heap x ox C od) (hb : PySem.W.findIn K (.ref C) "__bool__" = some none) (hs : PySem.W.findIn K (.ref C) "__len__" = some (some (.ref f))) (hf : PySem.W.isFn K (.ref f) = true)
    (h : wpAny (model prog w) A.in1 (call (.ref f) [.ref x]) (fun v s' => ∃ n t, v = .int n t ∧ (0 ≤ n ∧ n < 4611686018427387904) ∧ ∀ tk, Q (n != 0) { s' with toks := tk }) E' s) : wpAny (model prog w) A (truthy (.ref x)) Q E' s := by
  have body : wpAny (model prog w) A.in1 (Builtin.«len» ⟨[.ref x], []⟩) (fun fin s' => ∃ r, fin = .done (.ret r) ∧ ∃ n t, r = .int n t ∧ Q (n != 0) s') E' s := by
    unfold Builtin.«len»
    refine wpAny_bind (m := oneArg "len" _) (wpAny_pure ?_)
    refine wpAny_bind (m := callSpecial? (.ref x) (Str.ofString "__len__")) (PySem.W.special_fn inK I hs (beq_iff_eq.mp hf) (wpAny_mono h (fun r s' hr => ?_) fun _ _ y => y))
    obtain ⟨n, t, rfl, ⟨h0, h1⟩, q⟩ := hr
    refine wpAny_bind (wpAny_holding (wpAny_pure ?_))
    refine wpAny_bind (wpAny_letGo ?_)
    show wpAny _ _ (if n < 0 then _ else _) _ _ _
    rw [if_neg (by omega)]
    show wpAny _ _ (if n ≥ 2 ^ 63 then _ else _) _ _ _
    rw [if_neg (by omega)]
    exact wpAny_bind (wpAny_mkInt (wpAny_pure ⟨_, rfl, n, _, rfl, q _⟩))
  have key : wpAny (model prog w) A (runValue (.builtin "len" ⟨[.ref x], []⟩)) (fun r s' => ∃ n t, r = .int n t ∧ Q (n != 0) s') E' s := by
    refine wpAny_runValue (codeAny_builtin entry_len ?_)
    rw [Around.under_plainId plain_len _]
    exact wpAny_mono body (fun fin s' h' => by obtain ⟨r, rfl, hq⟩ := h'; exact hq) fun _ _ e => e
  unfold truthy
  refine wpAny_bind (m := callSpecial? (.ref x) (Str.ofString "__bool__")) (wpAny_bind (wpAny_bind (I.type.here ((PySem.W.looks_findIn inK hb).here (wpAny_pure ?_)))))
  refine wpAny_bind (wpAny_bind (I.type.here ((PySem.W.looks_findIn inK hs).here ?_)))
  refine wpAny_bind (wpAny_mono key (fun r s' hr => ?_) fun _ _ e => e)
  obtain ⟨n, t, rfl, q⟩ := hr
  exact wpAny_pure q
theorem bool_new (v : Value) : MeetsIn prog w (Builtin.«bool.__new__» ⟨[.type "bool", v], []⟩) (fun A R s => wpAny (model prog w) A.in1 (truthy v) (fun b s' => R (.ok (.ret (.bool b))) s') (fun e s' => R (.error e) s') s) :=
  .of_wp fun A R s h => by
    have f1 := PySem.F.conv_sub_bool
    obtain ⟨hp, g, d, tk, os⟩ := s
    repeat (any_goals (first | assumption | (with_reducible refine wpAny_mono h (fun b s' hb => ?_) fun _ _ e => e) | wp_step))
    all_goals first | exact ⟨_, rfl, hb⟩ | skip
end
section
variable {T : Tx} {G : Prg} {k : Nat} {X : Cx} {W : WX} {own : Bool} {σ : L2.St} {ω : Wd} {M : Store} {H : Hp} {Q : VK}
theorem cr_boolO (hm : DunF T G k X sLen 1) (hb : ∀ c j, G.meth c sLen = some j → PySem.W.findIn T.K (.ref (T.cA c)) "__bool__" = some none) (hr : Room (4 * k + 3) X.A) (hgd : X.A.guards = some []) (hK : X.K = T.K) :
    CallR X (.type "bool") (fun xs H Q => ∃ x, xs = [x] ∧ rDun T G k sLen 1 x [] H fun v H' => ∃ n : Int, v = .int n ∧ (0 ≤ n ∧ n < 4611686018427387904) ∧ Q (.bl (n != 0)) H') := by
  intro pins s σ H xs us Q I r h
  obtain ⟨x, rfl, h⟩ := h
  obtain ⟨u, rfl, ru⟩ := r.one
  have nb : ∃ c, (∃ a dx fs, x = .ref a ∧ H a = some (.ins (T.cA c) dx fs)) ∧ PySem.W.findIn T.K (.ref (T.cA c)) "__bool__" = some none := by
    obtain ⟨ω, M, d, ds, c, ns, fs, j, h1, h2, h3, h4, h5, h6, h7⟩ := h
    obtain ⟨a, dx, ws, e, ea, _, _⟩ := h1.obj h2 h4
    exact ⟨c, ⟨a, dx, _, e, ea⟩, hb c j h5⟩
  obtain ⟨a, C, f, dx, od, rfl, rfl, _, _, _, inst, at_, fn, ⟨fs, ha⟩, go⟩ := run_dun (A := X.A.in1.in1.in1) (E' := X.xe) hm (hr.in1.in1.in1) hgd (env_of I).in1.in1.in1 hK I ru .nil h
  obtain ⟨c, ⟨a', dx', fs', e, ha'⟩, nb⟩ := nb
  cases e
  rw [ha] at ha'
  cases ha'
  rw [← hK] at nb
  refine callType_newIn PySem.F.called_bool PySem.F.newNe_bool (PySem.F.typeCall_bool_1 _) (PySem.F.newCall_bool_1 _) (fun obj => PySem.F.args_object_init_2 obj _) PySem.F.entry_bool_new (bool_new (.ref a)) ?_
  refine truth_len I.kIn inst nb at_ fn (thn go fun w s' ⟨v', H', I', rv, n, e, hn, q⟩ => ?_)
  subst e
  obtain ⟨t, e⟩ := (show ∃ t, w = Value.int n t from rv)
  cases e
  exact ⟨n, t, rfl, hn, fun tk => ⟨rfl, .bl (n != 0), H', I'.tok _, rfl, q⟩⟩
theorem boolB_rep {d : D} {v : V} (mm : RepM T ω M H) (r : RepD T ω d v) (h : RP T W σ (RepD T) ω (boolB d M) fun _ _ _ H' v => Q v H') : ∃ n : Int, v = .int n ∧ (0 ≤ n ∧ n < 4611686018427387904) ∧ Q (.bl (n != 0)) H := by
  cases r with
  | int n =>
    have h : RP T W σ (RepD T) ω (if 0 ≤ n ∧ n < 4611686018427387904 then .ok (.bl (n != 0)) M else .bad) (fun _ _ _ H' v => Q v H') := h
    by_cases c : 0 ≤ n ∧ n < 4611686018427387904
    · rw [if_pos c] at h
      exact ⟨n, rfl, c, h ω H _ (Le.refl _) mm (.bl _)⟩
    · rw [if_neg c] at h
      exact h.elim
  | _ => exact h.elim
def rBool (K : PySem.W.Frag) : List V → Hp → VK → Prop := fun xs H Q => ((∃ i, xs = [.int i] ∧ Q (.bl (i != 0)) H) ∨ ∃ k, xs = [.bl k] ∧ Q (.bl k) H) ∨ ∃ (a : Addr) (zs : List V), xs = [.ref a] ∧ SqL K H a zs ∧ Q (.bl (!zs.isEmpty)) H
theorem fp_bool : FnKp T W .bool own (rBool T.K) := by
  refine fp_one (fun ds M n => ?_) fun σ Q ω M d v H m rv h => ?_
  · cases ds with
    | nil => rfl
    | cons d ds => cases ds with
      | nil => exact absurd rfl (n d)
      | cons _ _ => rfl
  · simp only [bfun] at h
    cases ex : view M d with
    | int i =>
      rw [ex] at h
      obtain rfl := view_int ex
      rw [rv.int_inv]
      exact .inl (.inl ⟨i, rfl, h ω H _ (Le.refl _) m (.bl _)⟩)
    | bl b =>
      rw [ex] at h
      obtain rfl := view_bl ex
      rw [rv.bl_inv]
      exact .inl (.inr ⟨b, rfl, h ω H _ (Le.refl _) m (.bl _)⟩)
    | lst xs =>
      rw [ex] at h
      obtain ⟨a, vs, rfl, h1, h2⟩ := m.lst rv ex
      refine .inr ⟨a, vs, rfl, h1, ?_⟩
      have e : xs.isEmpty = vs.isEmpty := by cases h2 <;> rfl
      rw [← e]
      exact h ω H _ (Le.refl _) m (.bl _)
    | _ => rw [ex] at h; exact h.elim
theorem fk_boolA : FnK T W (feOf G k) .bool own (fun xs H Q => rBool T.K xs H Q ∨ ∃ x, xs = [x] ∧ rDun T G k sLen 1 x [] H fun v H' => ∃ n : Int, v = .int n ∧ (0 ≤ n ∧ n < 4611686018427387904) ∧ Q (.bl (n != 0)) H') :=
  fk_obj (C := fun _ => True) (Q2 := fun Q v H' => ∃ n : Int, v = .int n ∧ (0 ≤ n ∧ n < 4611686018427387904) ∧ Q (.bl (n != 0)) H') (m := sLen) (g := boolB) (fun c ns fs d M ex => by simp only [bfD, ex]; rfl)
    (fun d M h => by cases ex : view M d with | obj c ns vs => (rw [ex] at h; cases h) | _ => simp only [bfD, ex])
    (fun ds M h => by
      cases ds with
      | nil => rfl
      | cons d ds => cases ds with
        | nil => exact absurd rfl (h d)
        | cons _ _ => rfl) fp_bool (fun σ ω Q d M H v m r h => boolB_rep m r h)
end
end Lc
end

section
set_option autoImplicit false
set_option linter.all false
set_option Elab.async false
set_option maxRecDepth 100000
/-! Lc: side conditions of the text; comparisons as tests. -/
namespace Lc
open PySem L2 PySem.Spec PyProof.Rows
/-! ### side conditions -/
def baseOk : Expr → Bool
  | .Call (.Name id _) [] [] _ => id != ("super" : Str)
  | _ => true
theorem base_of {o : Expr} {f : Str} {env : Env} {whole : Sem Value} (h : baseOk o = true) : attributeBase o f env whole = whole := by
  unfold baseOk at h
  split at h
  · exact abase_call h
  · rename_i h2
    unfold attributeBase
    split
    · rename_i id p pos'
      exact absurd rfl (h2 id p pos')
    · rfl
def plainT : Expr → Bool
  | .UnaryOp .Not _ _ => false
  | .BoolOp _ _ _ => false
  | .IfExp _ _ _ _ => false
  | .Compare _ _ _ _ => false
  | _ => true
theorem isTrue_of {e : Expr} {env : Env} (h : plainT e = true) : ∀ whole, isTrue e env whole = (do let v ← whole; standAt e.pos; holding [v] (truthy v)) := by
  intro whole
  cases e with
  | UnaryOp op x p => cases op <;> first | rfl | cases h
  | BoolOp => cases h
  | IfExp => cases h
  | Compare => cases h
  | _ => rfl
def compE : Expr → Bool
  | .ListComp _ _ _ _ => true
  | .SetComp _ _ _ _ => true
  | .DictComp _ _ _ _ _ => true
  | _ => false
theorem swaps_of {e : Expr} {t : Option Expr} {l : Nat} {env : Env} (h : compE e = false) : swapsWith e t l env = pure false := by
  cases e <;> first | rfl | cases h
theorem swapsSole_of {e tg : Expr} {l : Nat} {env : Env} (h : compE e = false) : swapsWithSole [tg] e l env = pure false := swaps_of h
def seqT : Expr → Bool
  | .Tuple _ _ _ => true
  | .List _ _ => true
  | _ => false
def tupE : Expr → Bool
  | .Tuple _ _ _ => true
  | _ => false
theorem stores_of {e tg : Expr} {env : Env} (h : (seqT tg && tupE e) = false) : swappedStores [tg] e env = pure none := by
  unfold swappedStores
  cases tg <;> first | rfl | (cases e <;> first | rfl | cases h)
/-- all are made of constants alone: stored in order -/
theorem stores_const {ts vs : List Expr} {k k2 : Nat} {p p2 : Pos} {env : Env} (h : vs.all (foldedForSure 8) = true) : swappedStores [.Tuple ts k p] (.Tuple vs k2 p2) env = pure none := by
  unfold swappedStores
  simp only [h]
  split
  · rfl
  · split
    · rfl
    · split <;> rfl
theorem assign_one {tg : Expr} {env : Env} (h : star1 tg = false) : (assignEach [tg] env).map (·.2) = [assign tg env] := by
  cases tg <;> first | rfl | cases h
def setE : Expr → Bool
  | .Set _ _ _ => true
  | _ => false
theorem folded_of {e : Expr} {env : Env} (h : setE e = false) : ∀ x, foldedSetIterable e env x = pure x := by
  intro x
  cases e <;> first | rfl | cases h
theorem mark_of {e : Expr} {op : CmpOp} (h : setE e = false) : behindInMarks op e = false := by
  cases e <;> first | rfl | cases h
theorem marks2_of {b c : Expr} {op op' : CmpOp} (h : setE c = false) : lastMarks [op, op'] [b, c] = false := mark_of h
theorem pt_of_pw {X : Cx} {e : Expr} {t : TT} (h : PW X e t) : PT X e t := ⟨fun pins s σ H Q I q => h.run _ pins s σ H Q I q⟩
section
variable {T : Tx} {W : WX} {E : Fe} {X : Cx} {pos : Pos} {a b c : Expr} {ca cb cc : CE} {M : Store}
theorem isB_bl {d d' : D} {M' : Store} (h : isB d M = .ok d' M') : ∃ b, d' = .bl b := by
  cases d <;> first | (cases h; exact ⟨_, rfl⟩) | cases h
theorem notB_bl {d d' : D} {M' : Store} (h : notB d M = .ok d' M') : ∃ b, d' = .bl b := by
  cases d <;> first | (cases h; exact ⟨_, rfl⟩) | cases h
theorem bind_bl {r : Res D} {f : D → Store → Res D} (hf : ∀ d M d' M', f d M = .ok d' M' → ∃ b, d' = .bl b) {d' : D} {M' : Store} (h : r.bind f = .ok d' M') : ∃ b, d' = .bl b := by
  cases r with
  | ok x M1 => exact hf _ _ _ _ h
  | exc x M1 => cases h
  | bad => cases h
theorem cmpop_bl {op : COp} {x y d : D} {M' : Store} (h : cmpop op x y M = .ok d M') : ∃ b, d = .bl b := by
  unfold cmpop at h
  cases op
  all_goals
    simp only at h
    repeat' split at h
    all_goals first | (cases h; exact ⟨_, rfl⟩) | cases h
theorem cmpE_bl {op : COp} {x y d : D} {M' : Store} (h : cmpE E op x y M = .ok d M') : ∃ b, d = .bl b := by
  unfold cmpE at h
  repeat' split at h
  all_goals first
    | exact bind_bl (fun d M d' M' z => isB_bl z) h
    | exact bind_bl (fun d M d' M' z => notB_bl z) h
    | exact cmpop_bl h
    | cases h
theorem sndT_cmp {op : CmpOp} {cop : COp} (k : OpK T W E X op cop) (hm : behindInMarks op b = false) (ha : PE X a (tD T W E ca)) (hb : PE X b (tD T W E cb)) : PT X (.Compare a [op] [b] pos) (tT T W E (.cmp cop ca cb)) := by
  obtain ⟨r, h1, h2⟩ := k
  refine (pt_cmpR h1 ha hb hm).imp fun σ H Q ⟨ω, L, M, s, m, h⟩ => ?_
  unfold evT evE at h
  rw [res_bind_assoc] at h
  refine ⟨ω, L, M, s, m, (RP.bind (R := RepD T) h).imp fun x M1 ω1 H1 v l1 m1 q1 _ r1 => ?_⟩
  rw [res_bind_assoc] at r1
  refine ⟨ω1, L, M1, s.mono l1, m1, (RP.bind (R := RepD T) r1).imp fun y M2 ω2 H2 u l2 m2 q2 _ z => ?_⟩
  refine h2 σ _ ω2 M2 x y v u H2 m2 (q1.mono l2) q2 ?_
  cases q : cmpE E cop x y M2 with
  | exc w M1 => rw [q] at z; exact z
  | bad => rw [q] at z; exact z
  | ok d M3 =>
    obtain ⟨bb, rfl⟩ := cmpE_bl q
    rw [q] at z
    intro ω3 H3 v3 l3 m3 r3
    obtain rfl := r3.bl_inv
    exact ⟨bb, rfl, z ω3 H3 () l3 m3 trivial⟩
/-- a chain as a test -/
theorem sndT_cmp2 {op op' : CmpOp} {cop cop' : COp} (k : OpK T W E X op cop) (k' : OpK T W E X op' cop') (hm : lastMarks [op, op'] [b, c] = false) (ha : PE X a (tD T W E ca)) (hb : PE X b (tD T W E cb)) (hc : PE X c (tD T W E cc)) :
    PT X (.Compare a [op, op'] [b, c] pos) (tT T W E (.cmp2 cop cop' ca cb cc)) := by
  obtain ⟨r, h1, h2⟩ := k
  obtain ⟨r', h1', h2'⟩ := k'
  refine (pt_chain h1 h1' ha hb hc hm).imp fun σ H Q ⟨ω, L, M, s, m, h⟩ => ?_
  unfold evT evE at h
  rw [res_bind_assoc] at h
  refine ⟨ω, L, M, s, m, (RP.bind (R := RepD T) h).imp fun x M1 ω1 H1 v l1 m1 q1 _ r1 => ?_⟩
  rw [res_bind_assoc] at r1
  refine ⟨ω1, L, M1, s.mono l1, m1, (RP.bind (R := RepD T) r1).imp fun y M2 ω2 H2 u l2 m2 q2 _ z => ?_⟩
  refine h2 σ _ ω2 M2 x y v u H2 m2 (q1.mono l2) q2 ?_
  rw [res_bind_assoc] at z
  cases q : cmpE E cop x y M2 with
  | exc w M1 => rw [q] at z; exact z
  | bad => rw [q] at z; exact z
  | ok d M3 =>
    obtain ⟨bb, rfl⟩ := cmpE_bl q
    rw [q] at z
    intro ω3 H3 v3 l3 m3 r3
    obtain rfl := r3.bl_inv
    refine ⟨bb, rfl, ?_⟩
    cases bb with
    | false =>
      rw [if_neg Bool.false_ne_true]
      exact ⟨false, rfl, z ω3 H3 () l3 m3 trivial⟩
    | true =>
      rw [if_pos rfl]
      have z : RP T W σ RB ω2 (((evE E cc L M3).bind fun w M4 => cmpE E cop' y w M4).bind truthR) (fun b _ _ H' _ => Q b H') := z
      rw [res_bind_assoc] at z
      refine ⟨ω3, L, M3, s.mono (l1.trans (l2.trans l3)), m3, (RP.bind (R := RepD T) (RP.le l3 z)).imp fun w M4 ω4 H4 vw l4 m4 q4 _ z4 => ?_⟩
      refine h2' σ _ ω4 M4 y w u vw H4 m4 ((q2.mono l3).mono l4) q4 ?_
      cases qq : cmpE E cop' y w M4 with
      | exc w M1 => rw [qq] at z4; exact z4
      | bad => rw [qq] at z4; exact z4
      | ok d M5 =>
        obtain ⟨b2, rfl⟩ := cmpE_bl qq
        rw [qq] at z4
        intro ω5 H5 v5 l5 m5 r5
        obtain rfl := r5.bl_inv
        exact ⟨b2, rfl, z4 ω5 H5 () l5 m5 trivial⟩
end
end Lc
end

section
set_option autoImplicit false
set_option linter.all false
set_option Elab.async false
set_option maxRecDepth 100000
/-! Lc: the text and the core language: a check. -/
namespace Lc
open PySem L2 PySem.Spec PyProof.Rows

/-- what a global name is -/
inductive GK where
  | fn (i : Nat) | cls (c : Nat) | blt
  deriving DecidableEq
/-- what the check knows of the program: names; how defs may be called (def, values, keywords, the slots); methods -/
structure Uv where
  glob : List (Str × GK)
  binds : List (Nat × Nat × List Str × List (Nat ⊕ D))
  meths : List (Nat × Str × Nat)
  props : List (Nat × Str × Nat)
  cmets : List (Nat × Str × Nat)
def Uv.bind (U : Uv) (i n : Nat) (ks : List Str) (as : List (Nat ⊕ D)) : Bool := U.binds.any fun b => b.1 == i && b.2.1 == n && decide (b.2.2.1 = ks) && decide (b.2.2.2 = as)
structure Ck where
  N : List Str
  sc : Scope
  os : Scope
  U : Uv
def Ck.vis (C : Ck) (x : Str) : Bool := match C.sc.names.lookup x with
  | some .local => true | some .cell => true | some .free => true | _ => false
def Ck.gl (C : Ck) (x : Str) : Bool := match C.sc.names.lookup x with
  | some .globalImplicit => true | _ => false
def Ck.own (C : Ck) (x : Str) : Bool := match C.os.names.lookup x with
  | some .local => true | some .cell => true | _ => false
def nameOk (x : Str) : Bool := !(x == ("__debug__" : Str)) && !(x == ("__classdict__" : Str)) && !(x == ("__name__" : Str))
def Ck.slot (C : Ck) (i : Nat) (x : Str) : Bool := decide (C.N[i]? = some x) && C.vis x && nameOk x
def Ck.glob (C : Ck) (x : Str) (g : GK) : Bool := C.gl x && nameOk x && decide (C.U.glob.lookup x = some g)
mutual
def chkP (C : Ck) : Pat → Expr → Bool
  | .v i, e => match e with
    | .Name x _ => decide (C.N[i]? = some x) && C.own x
    | _ => false
  | .t ps, e => match e with
    | .Tuple es _ _ => noStar es && decide (es.length = ps.length) && chkPs C ps es
    | _ => false
def chkPs (C : Ck) : List Pat → List Expr → Bool
  | [], es => es.isEmpty
  | p :: ps, es => match es with
    | e :: es => chkP C p e && chkPs C ps es
    | [] => false
end
def litOk : D → Const → Bool
  | .int i, .int j => decide (i = j)
  | .bl a, .bool b => a == b
  | .non, .none => true
  | .str s, .str z => decide (s = z)
  | _, _ => false
def opOk : BOp → Operator → Bool
  | .add, .Add => true | .sub, .Sub => true | .mul, .Mult => true | .fdiv, .FloorDiv => true | .mod, .Mod => true | .pow, .Pow => true | .or, .BitOr => true | .and, .BitAnd => true
  | _, _ => false
def cmpOk : COp → CmpOp → Bool
  | .eq, .Eq => true | .ne, .NotEq => true | .lt, .Lt => true | .le, .LtE => true | .gt, .Gt => true | .ge, .GtE => true | .is, .Is => true | .isNot, .IsNot => true | .inn, .In => true | .notIn, .NotIn => true
  | _, _ => false
/-- the name of a built-in function -/
def BF.name : BF → Option Str
  | .len => some "len" | .sorted => some "sorted" | .tuple => some "tuple" | .list => some "list" | .all => some "all" | .any => some "any" | .sum => some "sum" | .abs => some "abs"
  | .min2 => some "min" | .max2 => some "max" | .int => some "int" | .str => some "str" | .repr => some "repr" | .bool => some "bool" | _ => none
/-- what the check says: as a value, as a test, walked with a name, walked with a tuple of names -/
structure CR where
  v : Bool
  t : Bool
  iv : Bool
  it : Bool
def CR.no : CR := ⟨false, false, false, false⟩
def CR.val (e : Expr) (b : Bool) : CR := ⟨b, b && plainT e, b && !setE e, b && !setE e⟩
def kwOk (ks : List Str) (kws : List Keyword) : Bool := decide (kws.map (·.arg) = ks.map some)
def kwNames (kws : List Keyword) : List Str := kws.filterMap (·.arg)
def noStarC (cs : List CE) : Bool := cs.all fun c => !starC c
def fewOk (es : List Expr) (kws : List Keyword) : Bool := decide (es.length + kws.length + (if kws.isEmpty then 0 else 1) < 30)
def Ck.inner (C : Ck) (scope : Scope) : Ck := { C with sc := relS scope C.sc, os := scope }
def Ck.names (C : Ck) (vs : List Nat) : List (Str × Nat) := vs.map fun i => ((C.N[i]?).getD Str.empty, i)
mutual
def chk (C : Ck) : CE → Expr → CR
  | .slot i, e => match e with
    | .Name x _ => .val e (C.slot i x)
    | _ => .no
  | .lit d, e => match e with
    | .Constant c _ _ => .val e (litOk d c)
    | _ => .no
  | .glob _ _, _ => .no
  | .tup cs, e => match e with
    | .Tuple es _ _ => .val e (noStar es && noStarC cs && chkEs C cs es)
    | _ => .no
  | .lst _ cs, e => match e with
    | .List es _ => .val e (noStar es && noStarC cs && chkEs C cs es)
    | _ => .no
  | .star _, _ => .no
  | .bin op _ a b, e => match e with
    | .BinOp x o y _ => .val e (opOk op o && (chk C a x).v && (chk C b y).v)
    | _ => .no
  | .neg a, e => match e with
    | .UnaryOp .USub x _ => .val e (chk C a x).v
    | _ => .no
  | .not a, e => match e with
    | .UnaryOp .Not x _ => let r := chk C a x; ⟨r.v, r.t, r.v, r.v⟩
    | _ => .no
  | .cmp op a b, e => match e with
    | .Compare x [o] [y] _ => let v := cmpOk op o && !setE y && (chk C a x).v && (chk C b y).v; ⟨v, v, v, v⟩
    | _ => .no
  | .cmp2 op op' a b c, e => match e with
    | .Compare x [o, o'] [y, z] _ => let v := cmpOk op o && cmpOk op' o' && !setE z && (chk C a x).v && (chk C b y).v && (chk C c z).v; ⟨v, v, v, v⟩
    | _ => .no
  | .conj cs, e => match e with
    | .BoolOp .And es _ => let v := !es.isEmpty && chkEs C cs es; ⟨v, !es.isEmpty && chkTs C cs es, v, v⟩
    | _ => .no
  | .disj cs, e => match e with
    | .BoolOp .Or es _ => let v := !es.isEmpty && chkEs C cs es; ⟨v, !es.isEmpty && chkTs C cs es, v, v⟩
    | _ => .no
  | .ite c a b, e => match e with
    | .IfExp x y z _ => .val e ((chk C c x).t && (chk C a y).v && (chk C b z).v)
    | _ => .no
  | .sub a i, e => match e with
    | .Subscript x y _ => .val e (!sl1 y && (chk C a x).v && (chk C i y).v)
    | _ => .no
  | .cut _ a lo hi, e => match e with
    | .Subscript x (.Slice l h none _) _ => .val e ((chk C a x).v && chkO C lo l && chkO C hi h)
    | _ => .no
  | .rev _ a, e => match e with
    | .Subscript x (.Slice none none (some (.UnaryOp .USub (.Constant (.int i) _ _) _)) _) _ => .val e (decide (i = 1) && (chk C a x).v)
    | _ => .no
  | .fld a f, e => match e with
    | .Attribute x g _ => .val e (decide (f = g) && baseOk x && (chk C a x).v)
    | _ => .no
  | .prop a f, e => match e with
    | .Attribute x g _ => .val e (decide (f = g) && baseOk x && (chk C a x).v)
    | _ => .no
  | .call i cs ks as, e => match e with
    | .Call (.Name x _) es kws _ => .val e (C.glob x (.fn i) && C.U.bind i cs.length (kwNames kws) as && decide (es.length = cs.length) && noStar es && noStarC cs && noStarC ks && decide (ks.length = (kwNames kws).length) && kwOk (kwNames kws) kws && chkEs C cs es && chkKs C ks kws)
    | _ => .no
  | .meth m o cs ks as, e => match e with
    | .Call (.Attribute x m' apos) es kws pos => .val e (decide (m = m') && baseOk x && (apos.endLine == pos.line) && fewOk es kws && (C.U.meths.all fun b => !decide (b.2.1 = m) || C.U.bind b.2.2 (cs.length + 1) (kwNames kws) as) && decide (es.length = cs.length) && noStar es && noStarC cs && noStarC ks &&
        decide (ks.length = (kwNames kws).length) && kwOk (kwNames kws) kws && (chk C o x).v && chkEs C cs es && chkKs C ks kws)
    | _ => .no
  | .mk _ c cs ks as, e => match e with
    | .Call (.Name x _) es kws _ => .val e (C.glob x (.cls c) && (C.U.meths.all fun b => !(decide (b.1 = c) && decide (b.2.1 = sInit)) || C.U.bind b.2.2 (cs.length + 1) (kwNames kws) as) && decide (es.length = cs.length) && noStar es && noStarC cs && noStarC ks && decide (ks.length = (kwNames kws).length) && kwOk (kwNames kws) kws && chkEs C cs es && chkKs C ks kws)
    | _ => .no
  | .mkL _ i cs as, e => match e with
    | .Call (.Name x _) es [] _ => .val e (C.slot i x && (C.U.meths.all fun b => !decide (b.2.1 = sInit) || C.U.bind b.2.2 (cs.length + 1) [] as) && decide (es.length = cs.length) && noStar es && noStarC cs && chkEs C cs es)
    | _ => .no
  | .cmet c m cs as, e => match e with
    | .Call (.Attribute (.Name x _) m' apos) (e1 :: es) [] pos => .val e (decide (m = m') && C.glob x (.cls c) && (apos.endLine == pos.line) && fewOk (e1 :: es) [] && (C.U.cmets.all fun b => !(decide (b.1 = c) && decide (b.2.1 = m)) || C.U.bind b.2.2 (cs.length + 1) [] as) && (C.U.cmets.any fun b => decide (b.1 = c) && decide (b.2.1 = m)) &&
        decide ((e1 :: es).length = cs.length) && noStar (e1 :: es) && noStarC cs && chkEs C cs (e1 :: es))
    | _ => .no
  | .bf f _ cs, e => match e with
    | .Call (.Name x _) (e1 :: es) [] _ => .val e (decide (f.name = some x) && C.glob x .blt && noStar (e1 :: es) && noStarC cs && chkEs C cs (e1 :: es))
    | _ => .no
  | .bm m _ o cs, e => match e with
    | .Call (.Attribute x nm apos) es [] pos => .val e (baseOk x && (apos.endLine == pos.line) && (chk C o x).v && noStar es && noStarC cs && fewOk es [] && (match m with
        | .append => decide (nm = ("append" : Str)) && decide (es.length = 1)
        | .clear => decide (nm = ("clear" : Str)) && es.isEmpty
        | .pop => decide (nm = ("pop" : Str)) && es.isEmpty
        | .join => decide (nm = ("join" : Str)) && decide (es.length = 1)
        | _ => false) && chkEs C cs es)
    | _ => .no
  | .comp _ gs vs ce, e => match e with
    | .ListComp elt gens scope _ => .val e (blkC C.N C.sc scope (C.names vs) && chkGs C (C.inner scope) vs gs gens && (chk (C.inner scope) ce elt).v)
    | _ => .no
  | .frz c, e => let r := chk C c e; .val e r.v
  | .rng cs, e => match e with
    | .Call (.Name x _) es [] _ => ⟨false, false, decide (x = ("range" : Str)) && C.glob x .blt && noStar es && noStarC cs && (decide (es.length = 1) || decide (es.length = 2)) && chkEs C cs es, false⟩
    | _ => .no
  | .enum c, e => match e with
    | .Call (.Name x _) [y] [] _ => ⟨false, false, false, decide (x = ("enumerate" : Str)) && C.glob x .blt && !star1 y && !starC c && (chk C c y).v⟩
    | _ => .no
  | .zip a b, e => match e with
    | .Call (.Name x _) [y, z] [] _ => ⟨false, false, false, decide (x = ("zip" : Str)) && C.glob x .blt && !star1 y && !star1 z && !starC a && !starC b && (chk C a y).v && (chk C b z).v⟩
    | _ => .no
  | .isi _ _, _ => .no
  | .fmt cs, e => match e with
    | .JoinedStr es _ => .val e (decide (2 ≤ es.length) && chkFs C cs es)
    | _ => .no
def chkEs (C : Ck) : List CE → List Expr → Bool
  | [], es => es.isEmpty
  | c :: cs, es => match es with
    | e :: es => (chk C c e).v && chkEs C cs es
    | [] => false
def chkTs (C : Ck) : List CE → List Expr → Bool
  | [], es => es.isEmpty
  | c :: cs, es => match es with
    | e :: es => (chk C c e).t && chkTs C cs es
    | [] => false
def chkKs (C : Ck) : List CE → List Keyword → Bool
  | [], es => es.isEmpty
  | c :: cs, es => match es with
    | ⟨_, e, _⟩ :: es => (chk C c e).v && chkKs C cs es
    | [] => false
def chkFs (C : Ck) : List CE → List Expr → Bool
  | [], es => es.isEmpty
  | c :: cs, es => match es with
    | .FormattedValue x (-1) none _ :: es => (chk C c x).v && chkFs C cs es
    | .Constant (.str z) _ _ :: es => (match c with | .lit (.str y) => decide (y = z) | _ => false) && chkFs C cs es
    | _ => false
def chkO (C : Ck) : Option CE → Option Expr → Bool
  | none, e => e.isNone
  | some c, e => match e with
    | some x => (chk C c x).v
    | none => false
/-- the clauses: the first source stands outside (C), the rest within (I) -/
def chkGs (C I : Ck) (vs : List Nat) : List CG → List Comprehension → Bool
  | [], gens => gens.isEmpty
  | .mk p it ifs :: gs, gens => match gens with
    | ⟨tg, iter, tests, async⟩ :: gens => decide (async = 0) && chkP I p tg && (p.vars.all fun i => vs.contains i) && !setE iter && (match p with | .v _ => (chk C it iter).iv | .t _ => (chk C it iter).it) && decide (tests.length ≤ 1) && chkTs I ifs tests && gs.isEmpty && gens.isEmpty
    | [] => false
end
end Lc
end

section
set_option autoImplicit false
set_option linter.all false
set_option Elab.async false
set_option maxRecDepth 100000
/-! Lc: the check is sound. -/
namespace Lc
open PySem L2 PySem.Spec PyProof.Rows

/-- a def as it is called: its object, what it promises, how it may be bound -/
structure DefF (T : Tx) (U : Uv) (G : Prg) (k : Nat) (P : Program) (w : World) (mg : Str → Option Value) (base : Heap) (i : Nat) (f : Addr) : Prop where
  ex : ∃ fd ps np, DefOk P w T.K mg base (4 * k) f fd ps (spF G T k i np) ∧ ∀ n ks as, U.bind i n ks as = true → as.length = np ∧ BindP T fd ps n ks as
/-- what is known of the program around -/
structure Ux (U : Uv) (T : Tx) (G : Prg) (k : Nat) (P : Program) (w : World) (mg : Str → Option Value) (base : Heap) : Prop where
  fn : ∀ x i, U.glob.lookup x = some (.fn i) → ∃ f, mg x = some (.ref f) ∧ PySem.W.keepIn T.K (.ref f) = true ∧ DefF T U G k P w mg base i f
  cls : ∀ x c, U.glob.lookup x = some (.cls c) → mg x = some (.ref (T.cA c))
  blt : ∀ x, U.glob.lookup x = some .blt → mg x = none
  mem : ∀ c m j, G.meth c m = some j → (c, m, j) ∈ U.meths
  meth : ∀ c m j, G.meth c m = some j → Cls T.K (T.cA c) ∧ ∃ f, Meth T.K (T.cA c) m f ∧ DefF T U G k P w mg base j f
  make : ∀ c j, G.meth c sInit = some j → ∃ f, L2.Mk T.K (T.cA c) f ∧ DefF T U G k P w mg base j f
  ini : ∀ x c, U.glob.lookup x = some (.cls c) → (G.meth c sInit).isSome = true
  prop : ∀ c m j, G.prop c m = some j → Cls T.K (T.cA c) ∧ ∃ p f fd ps, PropOf T.K (T.cA c) m p f ∧ DefOk P w T.K mg base (4 * k) f fd ps (spF G T k j 1) ∧ Binds T.K fd ps []
  fld : ∀ c f, G.fld c f = true → Cls T.K (T.cA c) ∧ NoAttr T.K (T.cA c) f
  cmet : ∀ c m, (U.cmets.any fun b => decide (b.1 = c) && decide (b.2.1 = m)) = true → ∃ j mc p f, G.cmet c m = some j ∧ (c, m, j) ∈ U.cmets ∧ ClX.CRead T.K (T.cA c) mc ∧ ClX.CMet T.K (T.cA c) mc m p f ∧ DefF T U G k P w mg base j f
  boo : ∀ c j, G.meth c sLen = some j → PySem.W.findIn T.K (.ref (T.cA c)) "__bool__" = some none
  dun : ∀ m np, (m = sEq ∧ np = 2) ∨ (m = sIn ∧ np = 2) ∨ (m = sOr ∧ np = 2) ∨ (m = sAnd ∧ np = 2) ∨ (m = sLen ∧ np = 1) ∨ (m = sStr ∧ np = 1) ∨ (m = sRepr ∧ np = 1) → ∀ c j, G.meth c m = some j →
    PySem.W.selfFirst T.K (T.cA c) = true ∧ PySem.W.notFirst T.K (T.cA c) (.ref (T.cA c)) = true ∧ ∃ f fd ps, Meth T.K (T.cA c) m f ∧ DefOk P w T.K mg base (4 * k) f fd ps (spF G T k j np) ∧ ∀ (s : Shared) (us : List Value), T.K.In s.heap → us.length = np → BindsTo s fd ⟨us, []⟩ (ps.zip us)
/-- a context that the check fits -/
structure Fx (C : Ck) (T : Tx) (W : WX) (G : Prg) (k : Nat) (X : Cx) : Prop where
  K : X.K = T.K
  N : X.N = C.N
  nd : C.N.Nodup
  sc : X.env.scope = C.sc
  kind : C.sc.kind = .function
  own : ∀ x kd, kd ≠ .free → C.os.names.lookup x = some kd → C.sc.names.lookup x = some kd
  fn : ∀ x, C.os.names.lookup x = some .cell → X.fn x = true
  calm : X.calm = true
  room : Room (4 * k + 3) X.A
  gds : X.A.guards = some []
  tk : Takes X W
  U : Ux C.U T G k X.prog X.w X.mg X.base
section
variable {C : Ck} {T : Tx} {W : WX} {G : Prg} {k : Nat} {X : Cx} {pos : Pos} {e : Expr} {x : Str}
theorem nameOk_d (h : nameOk x = true) : (x == ("__debug__" : Str)) = false := by
  unfold nameOk at h
  simp only [Bool.and_eq_true, Bool.not_eq_true'] at h
  exact h.1.1
theorem nameOk_c (h : nameOk x = true) : (x == ("__classdict__" : Str)) = false := by
  unfold nameOk at h
  simp only [Bool.and_eq_true, Bool.not_eq_true'] at h
  exact h.1.2
theorem nameOk_n (h : nameOk x = true) : x ≠ "__name__" := by
  unfold nameOk at h
  simp only [Bool.and_eq_true, Bool.not_eq_true'] at h
  exact beq_eq_false_iff_ne.mp h.2
theorem Fx.vis (F : Fx C T W G k X) (h : C.vis x = true) : Vis X.env.scope x := by
  rw [F.sc]
  unfold Ck.vis at h
  split at h
  · exact .inl (by assumption)
  · exact .inr (.inl (by assumption))
  · exact .inr (.inr (by assumption))
  · cases h
theorem Fx.gl (F : Fx C T W G k X) (h : C.gl x = true) : Gl X x := by
  show X.env.scope.names.lookup x = _
  rw [F.sc]
  unfold Ck.gl at h
  split at h
  · assumption
  · cases h
theorem Fx.slot (F : Fx C T W G k X) {i : Nat} (h : C.slot i x = true) : PE X (.Name x pos) (tVar i) := by
  unfold Ck.slot at h
  simp only [Bool.and_eq_true, decide_eq_true_eq] at h
  exact pe_var (by rw [F.N]; exact h.1.1) (F.vis h.1.2) (nameOk_d h.2) (nameOk_c h.2)
theorem Fx.loc (F : Fx C T W G k X) (h : C.own x = true) : L2.Loc X.env.scope x ∧ (X.fn x = true ∨ X.env.scope.names.lookup x = some .local) := by
  rw [F.sc]
  unfold Ck.own at h
  split at h
  · rename_i z
    have z' := F.own x _ (by decide) z
    exact ⟨.inl z', .inr z'⟩
  · rename_i z
    exact ⟨.inr (F.own x _ (by decide) z), .inl (F.fn x z)⟩
  · cases h
mutual
theorem chkP_ok (F : Fx C T W G k X) : ∀ {p : Pat} {e : Expr}, chkP C p e = true → PG X e (gP T p)
  | .v i, e, h => by
    unfold chkP at h
    split at h
    · simp only [Bool.and_eq_true, decide_eq_true_eq] at h
      exact snd_pv (by rw [F.N]; exact F.nd) (by rw [F.N]; exact h.1) (F.loc h.2).1 (F.loc h.2).2
    · cases h
  | .t ps, e, h => by
    unfold chkP at h
    split at h
    · simp only [Bool.and_eq_true, decide_eq_true_eq] at h
      exact snd_pt F.K F.calm (chkPs_ok F h.1.1 h.2) h.1.2 h.1.1
    · cases h
theorem chkPs_ok (F : Fx C T W G k X) : ∀ {ps : List Pat} {es : List Expr}, noStar es = true → chkPs C ps es = true → PGs X es (gPs T ps)
  | [], es, hs, h => by
    unfold chkPs at h
    cases es with
    | nil => exact snd_pnil
    | cons _ _ => cases h
  | p :: ps, es, hs, h => by
    unfold chkPs at h
    cases es with
    | nil => cases h
    | cons e es =>
      simp only [Bool.and_eq_true] at h
      have hs' := noStar_cons hs
      exact snd_pcons hs'.1 (chkP_ok F h.1) (chkPs_ok F hs'.2 h.2)
end
theorem lit_ok {d : D} {c : Const} {j : Nat} (h : litOk d c = true) : PE X (.Constant c j pos) (tD T W (feOf G k) (.lit d)) := by
  unfold litOk at h
  split at h
  · rw [← of_decide_eq_true h]; exact snd_lit pe_int fun ω => .int _
  · rw [← eq_of_beq h]; exact snd_lit pe_bl fun ω => .bl _
  · exact snd_lit pe_non fun ω => .non
  · rw [← of_decide_eq_true h]; exact snd_lit pe_str fun ω => .str _
  · cases h
theorem Fx.dunF (F : Fx C T W G k X) {m : Str} {np : Nat} (h : (m = sEq ∧ np = 2) ∨ (m = sIn ∧ np = 2) ∨ (m = sOr ∧ np = 2) ∨ (m = sAnd ∧ np = 2) ∨ (m = sLen ∧ np = 1) ∨ (m = sStr ∧ np = 1) ∨ (m = sRepr ∧ np = 1)) : DunF T G k X m np := by
  intro c j hj
  obtain ⟨h1, h2, f, fd, ps, h3, h4, h5⟩ := F.U.dun m np h c j hj
  exact ⟨(F.U.meth c m j hj).1, h1, h2, f, fd, ps, h3, by rw [F.K]; exact h4, h5⟩
theorem Fx.defF (F : Fx C T W G k X) {i : Nat} {f : Addr} (d : DefF T C.U G k X.prog X.w X.mg X.base i f) : ∃ fd ps np, DefOk X.prog X.w X.K X.mg X.base (4 * k) f fd ps (spF G T k i np) ∧ ∀ n ks as, C.U.bind i n ks as = true → as.length = np ∧ BindP T fd ps n ks as := by
  rw [F.K]
  exact d.ex
theorem room_un {n : Nat} (hn : n ≤ 200) (r : Room (4 * k + 3) X.A) : X.A.units + n < cLine := by
  have := r.un
  omega
theorem bin_ok (F : Fx C T W G k X) {op : BOp} {o : Operator} {own : Bool} {a b : Expr} {ca cb : CE} (h : opOk op o = true) (ha : PE X a (tD T W (feOf G k) ca)) (hb : PE X b (tD T W (feOf G k) cb)) : PE X (.BinOp a o b pos) (tD T W (feOf G k) (.bin op own ca cb)) := by
  unfold opOk at h
  split at h
  · exact snd_add F.K ha hb
  · exact snd_sub ha hb
  · exact snd_mul F.K ha hb
  · exact snd_fdiv ha hb
  · exact snd_mod ha hb
  · exact snd_pow ha hb
  · exact snd_binO (.inl ⟨rfl, rfl, rfl⟩) (F.dunF (by simp)) F.room F.gds F.K ha hb
  · exact snd_binO (.inr ⟨rfl, rfl, rfl⟩) (F.dunF (by simp)) F.room F.gds F.K ha hb
  · cases h
theorem cmp_ok (F : Fx C T W G k X) {op : COp} {o : CmpOp} (h : cmpOk op o = true) : OpK T W (feOf G k) X o op := by
  unfold cmpOk at h
  split at h
  · exact opK_eq (F.dunF (by simp)) F.room F.gds F.K (op_eqD (room_un (by decide) F.room)) (fun x y H Q z => by rw [F.K]; exact z)
  · exact opK_ne (op_neD (room_un (by decide) F.room)) (fun x y H Q z => by rw [F.K]; exact z)
  · exact opK_lt (room_un (by decide) F.room) F.K
  · exact opK_le
  · exact opK_gt
  · exact opK_ge
  · exact opK_is
  · exact opK_isN
  · exact opK_in (F.dunF (by simp)) F.room F.gds (room_un (by decide) F.room) F.K
  · exact opK_notIn (F.dunF (by simp)) F.room F.gds (room_un (by decide) F.room) F.K
  · cases h
end
end Lc
end

section
set_option autoImplicit false
set_option linter.all false
set_option Elab.async false
set_option maxRecDepth 100000
/-! Lc: the check is sound, by recursion. -/
namespace Lc
open PySem L2 PySem.Spec PyProof.Rows
/-- what the check's answer promises -/
structure SO (T : Tx) (W : WX) (E : Fe) (X : Cx) (c : CE) (e : Expr) (r : CR) : Prop where
  v : r.v = true → PE X e (tD T W E c)
  t : r.t = true → PT X e (tT T W E c)
  iv : r.iv = true → ∀ tg i, PI X tg e (tI T W E (.v i) c)
  it : r.it = true → ∀ es kk p ps, PI X (.Tuple es kk p) e (tI T W E (.t ps) c)
section
variable {C : Ck} {T : Tx} {W : WX} {G : Prg} {k : Nat} {X : Cx} {e : Expr} {c : CE} {E : Fe}
theorem so_no : SO T W E X c e .no := ⟨nofun, nofun, nofun, nofun⟩
theorem so_val (hK : X.K = T.K) {b : Bool} (h : b = true → PE X e (tD T W E c)) : SO T W E X c e (.val e b) := by
  refine ⟨h, fun z => ?_, fun z tg i => ?_, fun z es kk p ps => ?_⟩
  · have z' := Bool.and_eq_true_iff.mp z
    exact snd_truth hK (h z'.1) (isTrue_of z'.2)
  · have z' := Bool.and_eq_true_iff.mp z
    exact snd_walk hK (h z'.1)
  · have z' := Bool.and_eq_true_iff.mp z
    exact snd_walk hK (h z'.1)
theorem so_vt (hK : X.K = T.K) {b t : Bool} (h : b = true → PE X e (tD T W E c)) (ht : t = true → PT X e (tT T W E c)) : SO T W E X c e ⟨b, t, b, b⟩ := ⟨h, ht, fun z tg i => snd_walk hK (h z), fun z es kk p ps => snd_walk hK (h z)⟩
theorem snd_ix {a i : Expr} {ca ci : CE} {pos : Pos} (hK : X.K = T.K) (hsl : sl1 i = false) (ha : PE X a (tD T W E ca)) (hi : PE X i (tD T W E ci)) : PE X (.Subscript a i pos) (tD T W E (.sub ca ci)) := by
  refine (pe_ix ix_seq ha hi (fun _ _ => by cases i <;> first | rfl | cases hsl)).imp fun σ H Q ⟨ω, L, M, s, m, h⟩ => ?_
  unfold evE at h
  rw [hK]
  exact rp2 s m (fun ω M dx dy x y H mm rx ry z => k_index mm rx ry z) h
end
theorem Fx.glob {C : Ck} {T : Tx} {W : WX} {G : Prg} {k : Nat} {X : Cx} (F : Fx C T W G k X) {x : Str} {g : GK} (h : C.glob x g = true) : Gl X x ∧ nameOk x = true ∧ C.U.glob.lookup x = some g := by
  unfold Ck.glob at h
  simp only [Bool.and_eq_true, decide_eq_true_eq] at h
  exact ⟨F.gl h.1.1, h.1.2, h.2⟩
theorem all_at {α : Type} {l : List α} {p : α → Bool} (h : l.all p = true) {a : α} (m : a ∈ l) : p a = true := List.all_eq_true.mp h a m
theorem bf_ok {C : Ck} {T : Tx} {W : WX} {G : Prg} {k : Nat} {X : Cx} (F : Fx C T W G k X) {f : BF} {own : Bool} {x : Str} {p pos : Pos} {e : Expr} {es : List Expr} {cs : List CE} (hn : f.name = some x) (hg : C.glob x .blt = true) (hs : noStar (e :: es) = true) (ha : PA X (e :: es) (tDs T W (feOf G k) cs)) :
    PE X (.Call (.Name x p) (e :: es) [] pos) (tD T W (feOf G k) (.bf f own cs)) := by
  obtain ⟨g1, g2, g3⟩ := F.glob hg
  have g4 := F.U.blt x g3
  have d1 := nameOk_d g2
  have d2 := nameOk_n g2
  have hK := F.K
  cases f <;> simp only [BF.name, Option.some.injEq, reduceCtorEq] at hn <;> subst hn
  · refine snd_bf (call_len.or (cr_lenO (F.dunF (by simp)) F.room F.gds F.K)) ?_ g1 g4 boot_len d2 d1 hs ha
    rw [hK]
    exact fk_lenA
  · refine snd_bf (cr_sortD (room_un (by decide) F.room)) ?_ g1 g4 (by first | rfl | decide +kernel) d2 d1 hs ha
    rw [hK]
    exact fk_plain nofun nofun nofun nofun fp_sorted
  · refine snd_bty call_tupleF ?_ g1 g4 (by first | rfl | decide +kernel) d2 d1 hs ha
    rw [hK]
    exact fk_plain nofun nofun nofun nofun fp_tuple
  · refine snd_bty call_list_of ?_ g1 g4 (by first | rfl | decide +kernel) d2 d1 hs ha
    rw [hK]
    exact fk_plain nofun nofun nofun nofun fp_list
  · refine snd_bf (cr_all F.calm) ?_ g1 g4 (by first | rfl | decide +kernel) d2 d1 hs ha
    rw [hK]
    exact fk_plain nofun nofun nofun nofun fp_all
  · refine snd_bf (cr_any F.calm) ?_ g1 g4 (by first | rfl | decide +kernel) d2 d1 hs ha
    rw [hK]
    exact fk_plain nofun nofun nofun nofun fp_any
  · refine snd_bf (cr_sumA F.calm) ?_ g1 g4 (by first | rfl | decide +kernel) d2 d1 hs ha
    rw [hK]
    exact fk_plain nofun nofun nofun nofun fp_sum
  · exact snd_bf call_abs (fk_plain nofun nofun nofun nofun fp_abs) g1 g4 (by first | rfl | decide +kernel) d2 d1 hs ha
  · exact snd_bf (call_min2 F.calm) (fk_plain nofun nofun nofun nofun fp_min2) g1 g4 (by first | rfl | decide +kernel) d2 d1 hs ha
  · exact snd_bf (call_max2 F.calm) (fk_plain nofun nofun nofun nofun fp_max2) g1 g4 (by first | rfl | decide +kernel) d2 d1 hs ha
  · exact snd_bty call_int1 (fk_plain nofun nofun nofun nofun fp_int) g1 g4 (by first | rfl | decide +kernel) d2 d1 hs ha
  · refine snd_bty ((call_str_int.or (cr_strD F.gds (room_un (by decide) F.room))).or (cr_strO (F.dunF (by simp)) F.room F.gds F.K)) ?_ g1 g4 (by first | rfl | decide +kernel) d2 d1 hs ha
    rw [hK]
    exact fk_strA
  · refine snd_bf ((SkE.call_repr_int.or (cr_reprD F.gds (room_un (by decide) F.room))).or (cr_reprO (F.dunF (by simp)) F.room F.gds F.K)) ?_ g1 g4 (by first | rfl | decide +kernel) d2 d1 hs ha
    rw [hK]
    exact fk_reprA
  · refine snd_bty ((call_bool1.or call_boolL).or (cr_boolO (F.dunF (by simp)) (F.U.boo) F.room F.gds F.K)) ?_ g1 g4 (by first | rfl | decide +kernel) d2 d1 hs ha
    rw [hK]
    exact fk_boolA
end Lc
end

section
set_option autoImplicit false
set_option linter.all false
set_option Elab.async false
set_option maxRecDepth 100000
/-! Lc: the check is sound, by recursion. -/
namespace Lc
open PySem L2 PySem.Spec PyProof.Rows
theorem takes_WF {X : Cx} {s : Shared} {H : Hp} {scope : Scope} {ce : Env} {fp : List Addr} : Takes (X.blk s H scope ce fp) WF := by
  rintro u s' ⟨_, _, _, _, _, _, _, _, _, _, _, _, _, _, _, _, z⟩
  exact z
theorem names_snd (C : Ck) (vs : List Nat) : (C.names vs).map (·.2) = vs := by
  unfold Ck.names
  rw [List.map_map]
  exact List.map_id'' (fun _ => rfl) vs
/-- a comprehension's block fits too -/
theorem Fx.blk {C : Ck} {T : Tx} {W : WX} {G : Prg} {k : Nat} {X : Cx} (F : Fx C T W G k X) (s : Shared) (H : Hp) (scope : Scope) (hk : scope.kind = .function) (cl : List (Str × Addr)) (c0 : Addr) (fp : List Addr) : Fx (C.inner scope) T WF G k (X.blk s H scope (compEnvC scope cl c0 X.env) fp) where
  K := F.K
  N := F.N
  nd := F.nd
  sc := by
    show relS scope X.env.scope = relS scope C.sc
    rw [F.sc]
  kind := hk
  own := fun x kd hk h => lookup_relS_keep hk h
  fn := fun x h => by
    show (scope.names.lookup x == some NameKind.cell) = true
    have h : scope.names.lookup x = some .cell := h
    rw [h]
    rfl
  calm := F.calm
  room := F.room
  gds := F.gds
  tk := takes_WF
  U := F.U
section
variable {T : Tx} {G : Prg} {k : Nat}
mutual
theorem chk_ok : ∀ (c : CE) {C : Ck} {W : WX} {X : Cx} {e : Expr}, Fx C T W G k X → SO T W (feOf G k) X c e (chk C c e)
  | .slot i, C, W, X, e, F => by
    unfold chk
    split
    · exact so_val F.K fun h => snd_slot (F.slot h)
    · exact so_no
  | .lit d, C, W, X, e, F => by
    unfold chk
    split
    · exact so_val F.K fun h => lit_ok h
    · exact so_no
  | .glob _ _, C, W, X, e, F => by unfold chk; exact so_no
  | .tup cs, C, W, X, e, F => by
    unfold chk
    split
    · refine so_val F.K fun h => ?_
      simp only [Bool.and_eq_true] at h
      exact snd_tup (chkEs_ok cs F h.1.1 h.1.2 h.2)
    · exact so_no
  | .lst _ cs, C, W, X, e, F => by
    unfold chk
    split
    · refine so_val F.K fun h => ?_
      simp only [Bool.and_eq_true] at h
      exact snd_lst (chkEs_ok cs F h.1.1 h.1.2 h.2)
    · exact so_no
  | .star _, C, W, X, e, F => by unfold chk; exact so_no
  | .bin op _ a b, C, W, X, e, F => by
    unfold chk
    split
    · refine so_val F.K fun h => ?_
      simp only [Bool.and_eq_true] at h
      exact bin_ok F h.1.1 ((chk_ok a F).v h.1.2) ((chk_ok b F).v h.2)
    · exact so_no
  | .neg a, C, W, X, e, F => by
    unfold chk
    split
    · exact so_val F.K fun h => snd_neg ((chk_ok a F).v h)
    · exact so_no
  | .not a, C, W, X, e, F => by
    unfold chk
    split
    · exact so_vt F.K (fun h => snd_not F.K ((chk_ok a F).v h)) (fun h => sndT_not ((chk_ok a F).t h))
    · exact so_no
  | .cmp op a b, C, W, X, e, F => by
    unfold chk
    split
    · refine so_vt F.K (fun h => ?_) (fun h => ?_)
      all_goals
        simp only [Bool.and_eq_true, Bool.not_eq_true'] at h
      · exact snd_cmpK (cmp_ok F h.1.1.1) (mark_of h.1.1.2) ((chk_ok a F).v h.1.2) ((chk_ok b F).v h.2)
      · exact sndT_cmp (cmp_ok F h.1.1.1) (mark_of h.1.1.2) ((chk_ok a F).v h.1.2) ((chk_ok b F).v h.2)
    · exact so_no
  | .cmp2 op op' a b c, C, W, X, e, F => by
    unfold chk
    split
    · refine so_vt F.K (fun h => ?_) (fun h => ?_)
      all_goals
        simp only [Bool.and_eq_true, Bool.not_eq_true'] at h
      · exact snd_cmp2 (cmp_ok F h.1.1.1.1.1) (cmp_ok F h.1.1.1.1.2) (marks2_of h.1.1.1.2) ((chk_ok a F).v h.1.1.2) ((chk_ok b F).v h.1.2) ((chk_ok c F).v h.2)
      · exact sndT_cmp2 (cmp_ok F h.1.1.1.1.1) (cmp_ok F h.1.1.1.1.2) (marks2_of h.1.1.1.2) ((chk_ok a F).v h.1.1.2) ((chk_ok b F).v h.1.2) ((chk_ok c F).v h.2)
    · exact so_no
  | .conj cs, C, W, X, e, F => by
    unfold chk
    split
    · refine so_vt F.K (fun h => ?_) (fun h => ?_)
      all_goals
        simp only [Bool.and_eq_true, Bool.not_eq_true'] at h
      · exact conj_v cs F (by simpa using h.1) h.2
      · exact pt_of_pw (conj_t cs F (by simpa using h.1) h.2)
    · exact so_no
  | .disj cs, C, W, X, e, F => by
    unfold chk
    split
    · refine so_vt F.K (fun h => ?_) (fun h => ?_)
      all_goals
        simp only [Bool.and_eq_true, Bool.not_eq_true'] at h
      · exact disj_v cs F (by simpa using h.1) h.2
      · exact pt_of_pw (disj_t cs F (by simpa using h.1) h.2)
    · exact so_no
  | .ite c a b, C, W, X, e, F => by
    unfold chk
    split
    · refine so_val F.K fun h => ?_
      simp only [Bool.and_eq_true] at h
      exact snd_ite ((chk_ok c F).t h.1.1) ((chk_ok a F).v h.1.2) ((chk_ok b F).v h.2)
    · exact so_no
  | .sub a i, C, W, X, e, F => by
    unfold chk
    split
    · refine so_val F.K fun h => ?_
      simp only [Bool.and_eq_true, Bool.not_eq_true'] at h
      exact snd_ix F.K h.1.1 ((chk_ok a F).v h.1.2) ((chk_ok i F).v h.2)
    · exact so_no
  | .cut _ a lo hi, C, W, X, e, F => by
    unfold chk
    split
    · refine so_val F.K fun h => ?_
      simp only [Bool.and_eq_true] at h
      exact snd_cut F.K ((chk_ok a F).v h.1.1) (chkO_ok lo F h.1.2) (chkO_ok hi F h.2)
    · exact so_no
  | .rev _ a, C, W, X, e, F => by
    unfold chk
    split
    · refine so_val F.K fun h => ?_
      simp only [Bool.and_eq_true, decide_eq_true_eq] at h
      obtain ⟨rfl, h⟩ := h
      exact snd_rev F.K ((chk_ok a F).v h)
    · exact so_no
  | .fld a f, C, W, X, e, F => by
    unfold chk
    split
    · refine so_val F.K fun h => ?_
      simp only [Bool.and_eq_true, decide_eq_true_eq] at h
      obtain ⟨⟨rfl, h1⟩, h2⟩ := h
      exact snd_fld F.K (fun c z => F.U.fld c _ z) (base_of h1) ((chk_ok a F).v h2)
    · exact so_no
  | .prop a f, C, W, X, e, F => by
    unfold chk
    split
    · refine so_val F.K fun h => ?_
      simp only [Bool.and_eq_true, decide_eq_true_eq] at h
      obtain ⟨⟨rfl, h1⟩, h2⟩ := h
      refine snd_prop F.room F.gds F.K (fun c j z => ?_) F.tk (base_of h1) ((chk_ok a F).v h2)
      obtain ⟨q1, p, g, fd, ps, q2, q3, q4⟩ := F.U.prop c _ j z
      exact ⟨q1, p, g, fd, ps, q2, by rw [F.K]; exact q3, q4⟩
    · exact so_no
  | .call i cs ks as, C, W, X, e, F => by
    unfold chk
    split
    · refine so_val F.K fun h => ?_
      simp only [Bool.and_eq_true, decide_eq_true_eq] at h
      obtain ⟨⟨⟨⟨⟨⟨⟨⟨⟨h1, h2⟩, h3⟩, h4⟩, h5⟩, h6⟩, h7⟩, h8⟩, h9⟩, h10⟩ := h
      obtain ⟨g1, g2, g3⟩ := F.glob h1
      obtain ⟨f, q1, q2, q3⟩ := F.U.fn _ _ g3
      obtain ⟨fd, ps, np, q4, q5⟩ := F.defF q3
      obtain ⟨q6, q7⟩ := q5 _ _ _ h2
      exact snd_call q4 F.room F.gds F.tk F.K g1 q1 (by rw [F.K]; exact q2) (nameOk_d g2) q7 q6 h3 h4 h5 h6 h7 (of_decide_eq_true h8) (chkEs_ok cs F h4 h5 h9) (chkKs_ok ks F h6 h10)
    · exact so_no
  | .meth m o cs ks as, C, W, X, e, F => by
    unfold chk
    split
    · refine so_val F.K fun h => ?_
      simp only [Bool.and_eq_true, decide_eq_true_eq] at h
      obtain ⟨⟨⟨⟨⟨⟨⟨⟨⟨⟨⟨⟨⟨rfl, h1⟩, h2⟩, h3⟩, h4⟩, h5⟩, h6⟩, h7⟩, h8⟩, h9⟩, h10⟩, h11⟩, h12⟩, h13⟩ := h
      refine snd_meth F.room F.gds F.tk F.K (fun c j z => ?_) (base_of h1) h2 (of_decide_eq_true h3) h5 h6 h7 h8 h9 (of_decide_eq_true h10) ((chk_ok o F).v h11) (chkEs_ok cs F h6 h7 h12) (chkKs_ok ks F h8 h13)
      obtain ⟨q1, f, q2, q3⟩ := F.U.meth c _ j z
      obtain ⟨fd, ps, np, q4, q5⟩ := F.defF q3
      have q6 := all_at h4 (F.U.mem c _ j z)
      simp only [decide_true, Bool.not_true, Bool.false_or] at q6
      obtain ⟨q7, q8⟩ := q5 _ _ _ q6
      exact ⟨q1, f, fd, ps, np, q2, q4, q7, q8⟩
    · exact so_no
  | .mk _ c cs ks as, C, W, X, e, F => by
    unfold chk
    split
    · refine so_val F.K fun h => ?_
      simp only [Bool.and_eq_true, decide_eq_true_eq] at h
      obtain ⟨⟨⟨⟨⟨⟨⟨⟨⟨h1, h2⟩, h3⟩, h4⟩, h5⟩, h6⟩, h7⟩, h8⟩, h9⟩, h10⟩ := h
      obtain ⟨g1, g2, g3⟩ := F.glob h1
      have q0 := F.U.ini _ _ g3
      cases hi : G.meth c sInit with
      | none => rw [hi] at q0; cases q0
      | some j =>
        obtain ⟨f, q2, q3⟩ := F.U.make c j hi
        obtain ⟨fd, ps, np, q4, q5⟩ := F.defF q3
        have q6 := all_at h2 (F.U.mem c _ j hi)
        simp only [decide_true, Bool.and_self, Bool.not_true, Bool.false_or] at q6
        obtain ⟨q7, q8⟩ := q5 _ _ _ q6
        exact snd_mk q2 q4 F.room F.gds F.tk F.K hi g1 (F.U.cls _ _ g3) (nameOk_d g2) q8 q7 h3 h4 h5 h6 h7 (of_decide_eq_true h8) (chkEs_ok cs F h4 h5 h9) (chkKs_ok ks F h6 h10)
    · exact so_no
  | .mkL _ i cs as, C, W, X, e, F => by
    unfold chk
    split
    · refine so_val F.K fun h => ?_
      simp only [Bool.and_eq_true, decide_eq_true_eq] at h
      obtain ⟨⟨⟨⟨⟨h1, h2⟩, h3⟩, h4⟩, h5⟩, h6⟩ := h
      refine snd_mkL F.room F.gds F.tk F.K (fun c j z => ?_) (F.slot h1) h3 h4 h5 (chkEs_ok cs F h4 h5 h6)
      obtain ⟨f, q2, q3⟩ := F.U.make c j z
      obtain ⟨fd, ps, np, q4, q5⟩ := F.defF q3
      have q6 := all_at h2 (F.U.mem c _ j z)
      simp only [decide_true, Bool.not_true, Bool.false_or] at q6
      obtain ⟨q7, q8⟩ := q5 _ _ _ q6
      exact ⟨f, fd, ps, np, q2, q4, q7, q8⟩
    · exact so_no
  | .cmet c m cs as, C, W, X, e, F => by
    unfold chk
    split
    · refine so_val F.K fun h => ?_
      simp only [Bool.and_eq_true, decide_eq_true_eq] at h
      obtain ⟨⟨⟨⟨⟨⟨⟨⟨⟨rfl, h1⟩, h2⟩, h3⟩, h4⟩, h5⟩, h6⟩, h7⟩, h8⟩, h9⟩ := h
      obtain ⟨g1, g2, g3⟩ := F.glob h1
      obtain ⟨j, mc, p, f, q1, q2, q3, q4, q5⟩ := F.U.cmet c _ h5
      obtain ⟨fd, ps, np, q6, q7⟩ := F.defF q5
      have q8 := all_at h4 q2
      simp only [decide_true, Bool.and_self, Bool.not_true, Bool.false_or] at q8
      obtain ⟨q9, q10⟩ := q7 _ _ _ q8
      exact snd_cmet F.room F.gds F.tk F.K rfl q3 q4 q6 q1 q9 q10 g1 (F.U.cls _ _ g3) (nameOk_d g2) h2 (by simpa using of_decide_eq_true h3) h6 h7 h8 (chkEs_ok cs F h7 h8 h9)
    · exact so_no
  | .bf f _ cs, C, W, X, e, F => by
    unfold chk
    split
    · refine so_val F.K fun h => ?_
      simp only [Bool.and_eq_true, decide_eq_true_eq] at h
      exact bf_ok F h.1.1.1.1 h.1.1.1.2 h.1.1.2 (chkEs_ok cs F h.1.1.2 h.1.2 h.2)
    · exact so_no
  | .bm m _ o cs, C, W, X, e, F => by
    unfold chk
    split
    · rename_i x nm apos es pos
      refine so_val F.K fun h => ?_
      simp only [Bool.and_eq_true] at h
      obtain ⟨⟨⟨⟨⟨⟨⟨h1, h2⟩, h3⟩, h4⟩, h5⟩, h6⟩, h7⟩, h8⟩ := h
      have pa := chkEs_ok cs F h4 h5 h8
      have po := (chk_ok o F).v h3
      cases m <;> simp only [Bool.and_eq_true, decide_eq_true_eq, Bool.false_eq_true] at h7
      · obtain ⟨rfl, h7⟩ := h7
        cases es with
        | nil => simp at h7
        | cons e es => exact snd_bm F.K PySem.F.plainAttrs_list PySem.F.slot_list_append PySem.F.type_list_append mt_append met_append (fun d z => by cases d <;> first | exact ⟨_, rfl⟩ | cases z) (base_of h1) h2 h4 (by simpa [fewOk] using h6) po pa
      · obtain ⟨rfl, h7⟩ := h7
        cases es with
        | cons _ _ => cases h7
        | nil =>
          cases cs with
          | cons _ _ => simp [chkEs] at h8
          | nil => exact snd_bm0 F.K PySem.F.plainAttrs_list PySem.F.slot_list_pop PySem.F.type_list_pop mt_pop met_pop (fun d z => by cases d <;> first | exact ⟨_, rfl⟩ | cases z) (base_of h1) h2 po
      · obtain ⟨rfl, h7⟩ := h7
        cases es with
        | cons _ _ => cases h7
        | nil =>
          cases cs with
          | cons _ _ => simp [chkEs] at h8
          | nil => exact snd_bm0 F.K PySem.F.plainAttrs_list PySem.F.slot_list_clear PySem.F.type_list_clear mt_clear met_clear (fun d z => by cases d <;> first | exact ⟨_, rfl⟩ | cases z) (base_of h1) h2 po
      · obtain ⟨rfl, h7⟩ := h7
        match es, cs, h4, h5, h7, h8 with
        | [e], [c], h4, h5, _, h8 =>
          simp only [chkEs, Bool.and_eq_true] at h8
          exact snd_join F.K (noStar_cons h4).1 (by simpa [noStarC] using h5) (base_of h1) h2 po ((chk_ok c F).v h8.1)
        | [], _, _, _, h7, _ => simp at h7
        | _ :: _ :: _, _, _, _, h7, _ => simp at h7
        | [e], [], _, _, _, h8 => simp [chkEs] at h8
        | [e], _ :: _ :: _, _, _, _, h8 => simp [chkEs] at h8
    · exact so_no
  | .comp _ gs vs ce, C, W, X, e, F => by
    unfold chk
    split
    · rename_i elt gens scope pos
      refine so_val F.K fun h => ?_
      simp only [Bool.and_eq_true] at h
      obtain ⟨⟨h1, h2⟩, h3⟩ := h
      have ok : BlkOk X.N X.env.scope scope (C.names vs) := by rw [F.N, F.sc]; exact blkOk_by h1
      match gs, gens, h2 with
      | [.mk p it ifs], [⟨tg, iter, tests, async⟩], h2 =>
        simp only [chkGs, Bool.and_eq_true, decide_eq_true_eq, Bool.not_eq_true'] at h2
        obtain ⟨⟨⟨⟨⟨⟨⟨⟨rfl, c1⟩, c2⟩, c3⟩, c4⟩, c5⟩, c6⟩, _⟩, _⟩ := h2
        have hi : PI X tg iter (tI T W (feOf G k) p it) := by
          cases p with
          | v i => exact (chk_ok it F).iv c4 tg i
          | t ps =>
            unfold chkP at c1
            split at c1
            · exact (chk_ok it F).it c4 _ _ _ ps
            · cases c1
        have r := snd_comp1 (T := T) (W := W) (E := feOf G k) (X := X) (pos := pos) (ow := by assumption) (elt := elt) (tg := tg) (iter := iter) (ifs := tests) (scope := scope) (own := C.names vs) (p := p) (ci := it) (ce := ce) (cifs := ifs) F.calm (by rw [F.N]; exact F.nd) hi ok
          (fun s H c0 cl fp => chkP_ok (F.blk s H scope ok.kind cl c0 fp) c1) (fun s H c0 cl fp => chkIf_ok ifs (F.blk s H scope ok.kind cl c0 fp) c5 c6) (fun s H c0 cl fp => (chk_ok ce (F.blk s H scope ok.kind cl c0 fp)).v h3) (folded_of c3)
          (fun i hi => by rw [names_snd]; exact List.contains_iff_mem.mp (List.all_eq_true.mp c2 i hi))
        rw [names_snd] at r
        exact r
      | [], gens, h2 => exact ⟨fun pins s σ H Q I ⟨ω, L, M, rs, m, h⟩ => by
          unfold evE evC at h
          exact h.elim⟩
      | .mk _ _ _ :: _ :: _, [], h2 => simp [chkGs] at h2
      | .mk _ _ _ :: _ :: _, ⟨_, _, _, _⟩ :: _, h2 => simp [chkGs] at h2
      | [.mk p it ifs], [], h2 => simp [chkGs] at h2
      | [.mk p it ifs], ⟨_, _, _, _⟩ :: _ :: _, h2 => simp [chkGs] at h2
    · exact so_no
  | .frz c, C, W, X, e, F => by
    unfold chk
    exact so_val F.K fun h => snd_frz ((chk_ok c F).v h)
  | .rng cs, C, W, X, e, F => by
    unfold chk
    split
    · refine ⟨nofun, nofun, fun h tg i => ?_, nofun⟩
      simp only [Bool.and_eq_true, decide_eq_true_eq] at h
      obtain ⟨⟨⟨⟨⟨rfl, h1⟩, h2⟩, h3⟩, h4⟩, h5⟩ := h
      obtain ⟨g1, g2, g3⟩ := F.glob h1
      have pa := chkEs_ok cs F h2 h3 h5
      rename_i p es pos
      match es, cs, h2, h3, h4, h5, pa with
      | [a], [ca], h2, h3, _, _, pa => exact snd_range1 g1 (F.U.blt _ g3) (noStar_cons h2).1 (by simpa [noStarC] using h3) pa
      | [a, b], [ca, cb], h2, h3, _, _, pa => exact snd_range2 g1 (F.U.blt _ g3) (noStar_cons h2).1 (noStar_cons (noStar_cons h2).2).1 (by have h3 := h3; simp [noStarC] at h3; exact h3.1) (by have h3 := h3; simp [noStarC] at h3; exact h3.2) pa
      | [], _, _, _, h4, _, _ => simp at h4
      | _ :: _ :: _ :: _, _, _, _, h4, _, _ => simp at h4
      | [a], [], _, _, _, h5, _ => simp [chkEs] at h5
      | [a], _ :: _ :: _, _, _, _, h5, _ => simp [chkEs] at h5
      | [a, b], [], _, _, _, h5, _ => simp [chkEs] at h5
      | [a, b], [c], _, _, _, h5, _ => simp [chkEs] at h5
      | [a, b], _ :: _ :: _ :: _, _, _, _, h5, _ => simp [chkEs] at h5
    · exact so_no
  | .enum c, C, W, X, e, F => by
    unfold chk
    split
    · refine ⟨nofun, nofun, nofun, fun h es kk p ps => ?_⟩
      simp only [Bool.and_eq_true, decide_eq_true_eq, Bool.not_eq_true'] at h
      obtain ⟨⟨⟨⟨rfl, h1⟩, h2⟩, h3⟩, h4⟩ := h
      obtain ⟨g1, g2, g3⟩ := F.glob h1
      exact snd_enum F.K g1 (F.U.blt _ g3) h2 h3 (snd_acons h2 h3 ((chk_ok c F).v h4) snd_anil)
    · exact so_no
  | .zip a b, C, W, X, e, F => by
    unfold chk
    split
    · refine ⟨nofun, nofun, nofun, fun h es kk p ps => ?_⟩
      simp only [Bool.and_eq_true, decide_eq_true_eq, Bool.not_eq_true'] at h
      obtain ⟨⟨⟨⟨⟨⟨⟨rfl, h1⟩, h2⟩, h3⟩, h4⟩, h5⟩, h6⟩, h7⟩ := h
      obtain ⟨g1, g2, g3⟩ := F.glob h1
      exact snd_zip F.K g1 (F.U.blt _ g3) h2 h3 h4 h5 (snd_acons h2 h4 ((chk_ok a F).v h6) (snd_acons h3 h5 ((chk_ok b F).v h7) snd_anil))
    · exact so_no
  | .isi _ _, C, W, X, e, F => by unfold chk; exact so_no
  | .fmt cs, C, W, X, e, F => by
    unfold chk
    split
    · rename_i es pos
      refine so_val F.K fun h => ?_
      simp only [Bool.and_eq_true, decide_eq_true_eq] at h
      have pj := chkFs_ok cs F h.2
      match es, h.1, pj with
      | v1 :: v2 :: rest, _, pj => exact snd_fmt pj
      | [v], h1, _ => simp at h1
      | [], h1, _ => simp at h1
    · exact so_no
theorem chkEs_ok : ∀ (cs : List CE) {C : Ck} {W : WX} {X : Cx} {es : List Expr}, Fx C T W G k X → noStar es = true → noStarC cs = true → chkEs C cs es = true → PA X es (tDs T W (feOf G k) cs)
  | [], C, W, X, es, F, _, _, h => by
    unfold chkEs at h
    cases es with
    | nil => exact snd_anil
    | cons _ _ => cases h
  | c :: cs, C, W, X, es, F, h1, h2, h => by
    unfold chkEs at h
    cases es with
    | nil => cases h
    | cons e es =>
      simp only [Bool.and_eq_true] at h
      have h1' := noStar_cons h1
      unfold noStarC at h2
      rw [List.all_cons] at h2
      have h2' := Bool.and_eq_true_iff.mp h2
      exact snd_acons h1'.1 (by simpa using h2'.1) ((chk_ok c F).v h.1) (chkEs_ok cs F h1'.2 h2'.2 h.2)
theorem chkKs_ok : ∀ (cs : List CE) {C : Ck} {W : WX} {X : Cx} {es : List Keyword}, Fx C T W G k X → noStarC cs = true → chkKs C cs es = true → PK X es (tDs T W (feOf G k) cs)
  | [], C, W, X, es, F, _, h => by
    unfold chkKs at h
    cases es with
    | nil => exact snd_knil
    | cons _ _ => cases h
  | c :: cs, C, W, X, es, F, h2, h => by
    unfold chkKs at h
    cases es with
    | nil => cases h
    | cons e es =>
      obtain ⟨a, e, p⟩ := e
      simp only [Bool.and_eq_true] at h
      unfold noStarC at h2
      rw [List.all_cons] at h2
      have h2' := Bool.and_eq_true_iff.mp h2
      exact snd_kcons (by simpa using h2'.1) ((chk_ok c F).v h.1) (chkKs_ok cs F h2'.2 h.2)
theorem chkO_ok : ∀ (o : Option CE) {C : Ck} {W : WX} {X : Cx} {e : Option Expr}, Fx C T W G k X → chkO C o e = true → PO X e (tO T W (feOf G k) o)
  | none, C, W, X, e, F, h => by
    unfold chkO at h
    cases e with
    | none => exact sndO_none
    | some _ => cases h
  | some c, C, W, X, e, F, h => by
    unfold chkO at h
    cases e with
    | none => cases h
    | some x => exact sndO_some ((chk_ok c F).v h)
theorem chkFs_ok : ∀ (cs : List CE) {C : Ck} {W : WX} {X : Cx} {es : List Expr}, Fx C T W G k X → chkFs C cs es = true → PJ X es (cs.map (tFm T W (feOf G k)))
  | [], C, W, X, es, F, h => by
    unfold chkFs at h
    cases es with
    | nil => exact .nil
    | cons _ _ => cases h
  | c :: cs, C, W, X, es, F, h => by
    unfold chkFs at h
    split at h
    · simp only [Bool.and_eq_true] at h
      exact .cons (snd_fmt1 ((chk_ok c F).v h.1)) (chkFs_ok cs F h.2)
    · simp only [Bool.and_eq_true] at h
      obtain ⟨h1, h2⟩ := h
      split at h1
      · rw [of_decide_eq_true h1]
        exact .cons snd_fmtC (chkFs_ok cs F h2)
      · cases h1
    · cases h
theorem chkIf_ok : ∀ (cs : List CE) {C : Ck} {X : Cx} {es : List Expr}, Fx C T WF G k X → es.length ≤ 1 → chkTs C cs es = true → PTs X es (tTs T (feOf G k) cs)
  | [], C, X, es, F, hl, h => by
    unfold chkTs at h
    cases es with
    | nil => exact snd_ifs0
    | cons _ _ => cases h
  | c :: cs, C, X, es, F, hl, h => by
    unfold chkTs at h
    cases es with
    | nil => cases h
    | cons e es =>
      simp only [Bool.and_eq_true] at h
      cases es with
      | cons _ _ => simp at hl
      | nil =>
        cases cs with
        | cons _ _ => have h2 := h.2; simp [chkTs] at h2
        | nil => exact snd_ifs1 ((chk_ok c F).t h.1)
theorem conj_v : ∀ (cs : List CE) {C : Ck} {W : WX} {X : Cx} {es : List Expr} {pos : Pos}, Fx C T W G k X → es ≠ [] → chkEs C cs es = true → PE X (.BoolOp .And es pos) (tD T W (feOf G k) (.conj cs))
  | [], C, W, X, es, pos, F, hn, h => by
    unfold chkEs at h
    cases es with
    | nil => exact absurd rfl hn
    | cons _ _ => cases h
  | [c], C, W, X, es, pos, F, hn, h => by
    cases es with
    | nil => exact absurd rfl hn
    | cons e es =>
      simp only [chkEs, Bool.and_eq_true] at h
      cases es with
      | nil => exact snd_conj1 ((chk_ok c F).v h.1)
      | cons _ _ => cases h.2
  | c :: d :: cs, C, W, X, es, pos, F, hn, h => by
    cases es with
    | nil => exact absurd rfl hn
    | cons e es =>
      rw [chkEs] at h
      simp only [Bool.and_eq_true] at h
      cases es with
      | nil => rw [chkEs] at h; cases h.2
      | cons e2 es => exact snd_conj F.K ((chk_ok c F).v h.1) (conj_v (d :: cs) F nofun h.2)
theorem disj_v : ∀ (cs : List CE) {C : Ck} {W : WX} {X : Cx} {es : List Expr} {pos : Pos}, Fx C T W G k X → es ≠ [] → chkEs C cs es = true → PE X (.BoolOp .Or es pos) (tD T W (feOf G k) (.disj cs))
  | [], C, W, X, es, pos, F, hn, h => by
    unfold chkEs at h
    cases es with
    | nil => exact absurd rfl hn
    | cons _ _ => cases h
  | [c], C, W, X, es, pos, F, hn, h => by
    cases es with
    | nil => exact absurd rfl hn
    | cons e es =>
      simp only [chkEs, Bool.and_eq_true] at h
      cases es with
      | nil => exact snd_disj1 ((chk_ok c F).v h.1)
      | cons _ _ => cases h.2
  | c :: d :: cs, C, W, X, es, pos, F, hn, h => by
    cases es with
    | nil => exact absurd rfl hn
    | cons e es =>
      rw [chkEs] at h
      simp only [Bool.and_eq_true] at h
      cases es with
      | nil => rw [chkEs] at h; cases h.2
      | cons e2 es => exact snd_disj F.K ((chk_ok c F).v h.1) (disj_v (d :: cs) F nofun h.2)
theorem conj_t : ∀ (cs : List CE) {C : Ck} {W : WX} {X : Cx} {es : List Expr} {pos : Pos}, Fx C T W G k X → es ≠ [] → chkTs C cs es = true → PW X (.BoolOp .And es pos) (tT T W (feOf G k) (.conj cs))
  | [], C, W, X, es, pos, F, hn, h => by
    unfold chkTs at h
    cases es with
    | nil => exact absurd rfl hn
    | cons _ _ => cases h
  | [c], C, W, X, es, pos, F, hn, h => by
    cases es with
    | nil => exact absurd rfl hn
    | cons e es =>
      simp only [chkTs, Bool.and_eq_true] at h
      cases es with
      | nil => exact sndT_conj1 ((chk_ok c F).t h.1)
      | cons _ _ => cases h.2
  | c :: d :: cs, C, W, X, es, pos, F, hn, h => by
    cases es with
    | nil => exact absurd rfl hn
    | cons e es =>
      rw [chkTs] at h
      simp only [Bool.and_eq_true] at h
      cases es with
      | nil => rw [chkTs] at h; cases h.2
      | cons e2 es => exact sndT_conj ((chk_ok c F).t h.1) (conj_t (d :: cs) F nofun h.2)
theorem disj_t : ∀ (cs : List CE) {C : Ck} {W : WX} {X : Cx} {es : List Expr} {pos : Pos}, Fx C T W G k X → es ≠ [] → chkTs C cs es = true → PW X (.BoolOp .Or es pos) (tT T W (feOf G k) (.disj cs))
  | [], C, W, X, es, pos, F, hn, h => by
    unfold chkTs at h
    cases es with
    | nil => exact absurd rfl hn
    | cons _ _ => cases h
  | [c], C, W, X, es, pos, F, hn, h => by
    cases es with
    | nil => exact absurd rfl hn
    | cons e es =>
      simp only [chkTs, Bool.and_eq_true] at h
      cases es with
      | nil => exact sndT_disj1 ((chk_ok c F).t h.1)
      | cons _ _ => cases h.2
  | c :: d :: cs, C, W, X, es, pos, F, hn, h => by
    cases es with
    | nil => exact absurd rfl hn
    | cons e es =>
      rw [chkTs] at h
      simp only [Bool.and_eq_true] at h
      cases es with
      | nil => rw [chkTs] at h; cases h.2
      | cons e2 es => exact sndT_disj ((chk_ok c F).t h.1) (disj_t (d :: cs) F nofun h.2)
end
end
end Lc
end

section
set_option autoImplicit false
set_option linter.all false
set_option Elab.async false
set_option maxRecDepth 100000
namespace Lc
open PySem L2 PySem.Spec PyProof.Rows
def isStarE : Expr → Bool
  | .Starred .. => true
  | _ => false
def nmLoc (sc : Scope) (line : Nat) : Expr → Option Str
  | .Name id pos => if sc.names.lookup id == some .local && pos.line == line then some id else none
  | _ => none
/-- how a display is stored into names: none: as a tuple; some: the names, from the right -/
def stB (sc : Scope) (ts vs : List Expr) : Option (Option (List Str)) :=
  if (!(ts.length == 2 || ts.length == 3) || vs.length != ts.length) = true then some none
  else if vs.any isStarE = true then some none
  else if ((ts.filterMap (nmLoc sc ((ts.head?.map (·.pos.line)).getD 0))).length != ts.length || (ts.filterMap (nmLoc sc ((ts.head?.map (·.pos.line)).getD 0))).eraseDups.length != (ts.filterMap (nmLoc sc ((ts.head?.map (·.pos.line)).getD 0))).length) = true then some none
  else if vs.all (foldedForSure 8) = true then some none
  else if vs.all (constantsAlone 8) = true then none
  else some (some (ts.filterMap (nmLoc sc ((ts.head?.map (·.pos.line)).getD 0))))
theorem stB_ok {env : Env} {ts vs : List Expr} {k k2 : Nat} {p p2 : Pos} {r : Option (List Str)} (hk : env.scope.kind = .function) (h : stB env.scope ts vs = some r) : swappedStores [.Tuple ts k p] (.Tuple vs k2 p2) env = pure r := by
  have hb : env.blockKind = .function := by
    unfold Env.blockKind
    rw [hk]
    rfl
  have hb2 : (env.blockKind != .function) = false := by rw [hb]; rfl
  have e1 : ∀ f : Expr → Bool, (∀ x, f x = isStarE x) → vs.any f = vs.any isStarE := fun f hf => by rw [show f = isStarE from funext hf]
  have e2 : ∀ f : Expr → Option Str, (∀ x, f x = nmLoc env.scope ((ts.head?.map (·.pos.line)).getD 0) x) → ts.filterMap f = ts.filterMap (nmLoc env.scope ((ts.head?.map (·.pos.line)).getD 0)) := fun f hf => by rw [show f = nmLoc env.scope ((ts.head?.map (·.pos.line)).getD 0) from funext hf]
  unfold swappedStores
  dsimp only
  simp only [hb2, Bool.or_false]
  rw [e1 _ (by intro x; cases x <;> rfl), e2 _ (by intro x; cases x <;> rfl)]
  unfold stB at h
  by_cases c1 : (!(ts.length == 2 || ts.length == 3) || vs.length != ts.length) = true
  · rw [if_pos c1] at h ⊢
    cases h
    rfl
  · rw [if_neg c1] at h ⊢
    by_cases c2 : vs.any isStarE = true
    · rw [if_pos c2] at h ⊢
      cases h
      rfl
    · rw [if_neg c2] at h ⊢
      generalize (ts.filterMap (nmLoc env.scope ((ts.head?.map (·.pos.line)).getD 0))) = names at h ⊢
      by_cases c3 : (names.length != ts.length || names.eraseDups.length != names.length) = true
      · rw [if_pos c3] at h ⊢
        cases h
        rfl
      · rw [if_neg c3] at h ⊢
        by_cases c4 : vs.all (foldedForSure 8) = true
        · rw [if_pos c4] at h ⊢
          cases h
          rfl
        · rw [if_neg c4] at h ⊢
          by_cases c5 : vs.all (constantsAlone 8) = true
          · rw [if_pos c5] at h
            cases h
          · rw [if_neg c5] at h ⊢
            cases h
            rfl
section
variable {T : Tx} {W : WX} {E : Fe} {X : Cx}
theorem snd_par {i j : Nat} {x y : Str} {a b : Expr} {px py pt pos : Pos} {kt k2 pt2} {cs : List CE} (hc : X.calm = true) (hN : X.N.Nodup) (hi : X.N[i]? = some x) (hj : X.N[j]? = some y) (hij : i ≠ j)
    (hx : X.env.scope.names.lookup x = some .local) (hy : X.env.scope.names.lookup y = some .local) (hcs : cs.all (fun c => !starC c) = true) (hl2 : cs.length = 2) (ha : PA X [a, b] (tDs T W E cs))
    (hw : swappedStores [.Tuple [.Name x px, .Name y py] kt pt] (.Tuple [a, b] k2 pt2) X.env = pure (some [x, y])) :
    PS X (.Assign [.Tuple [.Name x px, .Name y py] kt pt] (.Tuple [a, b] k2 pt2) pos) (tS T W E (.asg (.pat (.t [.v i, .v j])) (.tup cs))) := (ps_par hc hN hi hj hij hx hy ha hw).imp fun D σ H ⟨ω, L, M, s, m, h⟩ => by
  refine ⟨ω, L, M, s, m, ?_⟩
  simp only [evS, evE] at h
  cases q : evEs E cs L M with
  | ok ds M1 =>
    rw [q] at h
    intro ω1 H1 vs l1 m1 r1
    have hl := evEs_len hcs q
    rw [hl2] at hl
    match ds, vs, hl, r1, h with
    | [d1, d2], _, _, .cons (v := v) ra (.cons (v := u) rb .nil), h =>
      refine ⟨v, u, rfl, ?_⟩
      have h : SRP T W ω (.nx ((L.set i (some d1)).set j (some d2)) M1) D := h
      exact h ω1 H1 _ l1 (((s.mono l1).set i ra).set j rb) m1
  | exc x M1 =>
    rw [q] at h
    exact fun ω' H' cls d l m x => h ω' H' σ cls d l (s.mono l) m x
  | bad => rw [q] at h; exact h.elim
theorem snd_par3 {i j l : Nat} {x y z : Str} {a b c : Expr} {px py pz pt pos : Pos} {kt k2 pt2} {cs : List CE} (hc : X.calm = true) (hN : X.N.Nodup) (hi : X.N[i]? = some x) (hj : X.N[j]? = some y) (hl : X.N[l]? = some z) (hij : i ≠ j) (hil : i ≠ l) (hjl : j ≠ l)
    (hx : X.env.scope.names.lookup x = some .local) (hy : X.env.scope.names.lookup y = some .local) (hz : X.env.scope.names.lookup z = some .local) (hcs : cs.all (fun c => !starC c) = true) (hl2 : cs.length = 3) (ha : PA X [a, b, c] (tDs T W E cs))
    (hw : swappedStores [.Tuple [.Name x px, .Name y py, .Name z pz] kt pt] (.Tuple [a, b, c] k2 pt2) X.env = pure (some [x, y, z])) :
    PS X (.Assign [.Tuple [.Name x px, .Name y py, .Name z pz] kt pt] (.Tuple [a, b, c] k2 pt2) pos) (tS T W E (.asg (.pat (.t [.v i, .v j, .v l])) (.tup cs))) := (ps_par3 hc hN hi hj hl hij hil hjl hx hy hz ha hw).imp fun D σ H ⟨ω, L, M, s, m, h⟩ => by
  refine ⟨ω, L, M, s, m, ?_⟩
  simp only [evS, evE] at h
  cases q : evEs E cs L M with
  | ok ds M1 =>
    rw [q] at h
    intro ω1 H1 vs l1 m1 r1
    have hl := evEs_len hcs q
    rw [hl2] at hl
    match ds, vs, hl, r1, h with
    | [d1, d2, d3], _, _, .cons (v := v) ra (.cons (v := u) rb (.cons (v := w) rc .nil)), h =>
      refine ⟨v, u, w, rfl, ?_⟩
      have h : SRP T W ω (.nx (((L.set i (some d1)).set j (some d2)).set l (some d3)) M1) D := h
      exact h ω1 H1 _ l1 ((((s.mono l1).set i ra).set j rb).set l rc) m1
  | exc x M1 =>
    rw [q] at h
    exact fun ω' H' cls d l m x => h ω' H' σ cls d l (s.mono l) m x
  | bad => rw [q] at h; exact h.elim
end
end Lc
end

section
set_option autoImplicit false
set_option linter.all false
set_option Elab.async false
set_option maxRecDepth 100000
/-! Lc: the check of statements. -/
namespace Lc
open PySem L2 PySem.Spec PyProof.Rows
/-- a list stored as it is made: on one line, in a local name -/
def swB (sc scope : Scope) (y : Str) (py pos : Pos) : Bool := (sc.names.lookup y == some .local) && (py.line == pos.line) && !(scope.names.any fun (n, k) => n == y && (k == .local || k == .cell))
theorem sw_eq {elt : Expr} {gs : List Comprehension} {scope : Scope} {pos py : Pos} {y : Str} {l : Nat} {env : Env} (hk : env.scope.kind = .function) : swapsWith (.ListComp elt gs scope pos) (some (.Name y py)) l env = pure (swB env.scope scope y py pos) := by
  have hb : env.blockKind = .function := by
    unfold Env.blockKind
    rw [hk]
    rfl
  unfold swapsWith swB
  simp only [hb]
  rfl
theorem comp_parts {T : Tx} {G : Prg} {k : Nat} {C : Ck} {W : WX} {X : Cx} (F : Fx C T W G k X) {ow : Bool} {p : Pat} {it ce : CE} {ifs : List CE} {vs : List Nat} {elt tg iter : Expr} {tests : List Expr} {a : Int} {scope : Scope} {pos : Pos} (h : (chk C (.comp ow [.mk p it ifs] vs ce) (.ListComp elt [⟨tg, iter, tests, a⟩] scope pos)).v = true) :
    a = 0 ∧ BlkOk X.N X.env.scope scope (C.names vs) ∧ PI X tg iter (tI T W (feOf G k) p it) ∧ chkP (C.inner scope) p tg = true ∧ tests.length ≤ 1 ∧ chkTs (C.inner scope) ifs tests = true ∧ (chk (C.inner scope) ce elt).v = true ∧ setE iter = false ∧ ∀ i ∈ p.vars, i ∈ vs := by
  simp only [chk, CR.val, chkGs, Bool.and_eq_true, decide_eq_true_eq, Bool.not_eq_true'] at h
  obtain ⟨⟨h1, ⟨⟨⟨⟨⟨⟨⟨c0, c1⟩, c2⟩, c3⟩, c4⟩, c5⟩, c6⟩, _⟩, _⟩, h3⟩ := h
  refine ⟨c0, by rw [F.N, F.sc]; exact blkOk_by h1, ?_, c1, c5, c6, h3, c3, fun i hi => List.contains_iff_mem.mp (List.all_eq_true.mp c2 i hi)⟩
  cases p with
  | v i => exact (chk_ok it F).iv c4 tg i
  | t ps =>
    unfold chkP at c1
    split at c1
    · exact (chk_ok it F).it c4 _ _ _ ps
    · cases c1
theorem asgC_ok {T : Tx} {G : Prg} {k : Nat} {C : Ck} {W : WX} {X : Cx} (F : Fx C T W G k X) {ow : Bool} {p : Pat} {it ce : CE} {ifs : List CE} {vs : List Nat} {elt tg iter : Expr} {tests : List Expr} {a : Int} {scope : Scope} {pos py spos : Pos} {y : Str} {i : Nat}
    (h : (chk C (.comp ow [.mk p it ifs] vs ce) (.ListComp elt [⟨tg, iter, tests, a⟩] scope pos)).v = true) (hp : chkP C (.v i) (.Name y py) = true) :
    PS X (.Assign [.Name y py] (.ListComp elt [⟨tg, iter, tests, a⟩] scope pos) spos) (tS T W (feOf G k) (.asg (.pat (.v i)) (.comp ow [.mk p it ifs] vs ce))) := by
  have hk : X.env.scope.kind = .function := by rw [F.sc]; exact F.kind
  cases hs : swB X.env.scope scope y py pos with
  | false => exact snd_asg ((chk_ok _ F).v h) (chkP_ok F hp) ((sw_eq (l := spos.line) hk).trans (by rw [hs])) (stores_of rfl) rfl
  | true =>
    obtain ⟨rfl, ok, hi, c1, c5, c6, h3, c3, c2⟩ := comp_parts F h
    have hy : X.env.scope.names.lookup y = some .local := by
      unfold swB at hs
      simp only [Bool.and_eq_true, beq_iff_eq] at hs
      exact hs.1.1
    have hn : X.N[i]? = some y := by
      unfold chkP at hp
      simp only [Bool.and_eq_true, decide_eq_true_eq] at hp
      rw [F.N]
      exact hp.1
    have r := snd_asgC1 (T := T) (W := W) (E := feOf G k) (X := X) (ow := ow) (i := i) (y := y) (py := py) (elt := elt) (tg := tg) (iter := iter) (ifs := tests) (scope := scope) (own := C.names vs) (pos := pos) (spos := spos) (p := p) (ci := it) (ce := ce) (cifs := ifs) F.calm (by rw [F.N]; exact F.nd) hn hy (by rw [sw_eq hk, hs]) hi ok
      (fun s H c0 cl fp => chkP_ok (F.blk s H scope ok.kind cl c0 fp) c1) (fun s H c0 cl fp => chkIf_ok ifs (F.blk s H scope ok.kind cl c0 fp) c5 c6) (fun s H c0 cl fp => (chk_ok ce (F.blk s H scope ok.kind cl c0 fp)).v h3) (folded_of c3) (fun i hi => by rw [names_snd]; exact c2 i hi)
    rw [names_snd] at r
    exact r
/-- stored as a tuple after all -/
def stN (C : Ck) (tg e : Expr) : Bool := match tg, e with
  | .Tuple ts _ _, .Tuple vs _ _ => decide (stB C.sc ts vs = some none)
  | _, _ => false
/-- two or three names stored from the right -/
def parB (C : Ck) (p : Pat) (c : CE) (tg e : Expr) : Bool := match p, c, tg, e with
  | .t [.v i, .v j], .tup cs, .Tuple [.Name x px, .Name y py] _ _, .Tuple [a, b] _ _ =>
    decide (stB C.sc [.Name x px, .Name y py] [a, b] = some (some [x, y])) && decide (C.N[i]? = some x) && decide (C.N[j]? = some y) && decide (i ≠ j) && (C.sc.names.lookup x == some .local) && (C.sc.names.lookup y == some .local) && noStarC cs && decide (cs.length = 2) && noStar [a, b] && chkEs C cs [a, b]
  | .t [.v i, .v j, .v l], .tup cs, .Tuple [.Name x px, .Name y py, .Name z pz] _ _, .Tuple [a, b, d] _ _ =>
    decide (stB C.sc [.Name x px, .Name y py, .Name z pz] [a, b, d] = some (some [x, y, z])) && decide (C.N[i]? = some x) && decide (C.N[j]? = some y) && decide (C.N[l]? = some z) && decide (i ≠ j) && decide (i ≠ l) && decide (j ≠ l) && (C.sc.names.lookup x == some .local) && (C.sc.names.lookup y == some .local) && (C.sc.names.lookup z == some .local) && noStarC cs && decide (cs.length = 3) && noStar [a, b, d] && chkEs C cs [a, b, d]
  | _, _, _, _ => false
theorem parB_ok {T : Tx} {G : Prg} {k : Nat} {C : Ck} {W : WX} {X : Cx} (F : Fx C T W G k X) {p : Pat} {c : CE} {tg e : Expr} {pos : Pos} (h : parB C p c tg e = true) : PS X (.Assign [tg] e pos) (tS T W (feOf G k) (.asg (.pat p) c)) := by
  have hk : X.env.scope.kind = .function := by rw [F.sc]; exact F.kind
  unfold parB at h
  split at h
  · simp only [Bool.and_eq_true, decide_eq_true_eq, beq_iff_eq] at h
    obtain ⟨⟨⟨⟨⟨⟨⟨⟨⟨h1, h2⟩, h3⟩, h4⟩, h5⟩, h6⟩, h7⟩, h8⟩, h9⟩, h10⟩ := h
    exact snd_par F.calm (by rw [F.N]; exact F.nd) (by rw [F.N]; exact h2) (by rw [F.N]; exact h3) h4 (by rw [F.sc]; exact h5) (by rw [F.sc]; exact h6) h7 h8 (chkEs_ok _ F h9 h7 h10) (stB_ok hk (by rw [F.sc]; exact h1))
  · simp only [Bool.and_eq_true, decide_eq_true_eq, beq_iff_eq] at h
    obtain ⟨⟨⟨⟨⟨⟨⟨⟨⟨⟨⟨⟨⟨h1, h2⟩, h3⟩, h3'⟩, h4⟩, h4'⟩, h4''⟩, h5⟩, h6⟩, h6'⟩, h7⟩, h8⟩, h9⟩, h10⟩ := h
    exact snd_par3 F.calm (by rw [F.N]; exact F.nd) (by rw [F.N]; exact h2) (by rw [F.N]; exact h3) (by rw [F.N]; exact h3') h4 h4' h4'' (by rw [F.sc]; exact h5) (by rw [F.sc]; exact h6) (by rw [F.sc]; exact h6') h7 h8 (chkEs_ok _ F h9 h7 h10) (stB_ok hk (by rw [F.sc]; exact h1))
  · cases h
theorem stN_ok {T : Tx} {G : Prg} {k : Nat} {C : Ck} {W : WX} {X : Cx} (F : Fx C T W G k X) {tg e : Expr} (h : (!(seqT tg && tupE e) || stN C tg e) = true) : swappedStores [tg] e X.env = pure none := by
  have hk : X.env.scope.kind = .function := by rw [F.sc]; exact F.kind
  rcases Bool.or_eq_true_iff.mp h with h | h
  · exact stores_of (by simpa only [Bool.not_eq_true'] using h)
  · unfold stN at h
    split at h
    · exact stB_ok hk (by rw [F.sc]; exact of_decide_eq_true h)
    · cases h
def asgC : Pat → CE → Expr → Expr → Bool
  | .v _, .comp _ [.mk _ _ _] _ _, .Name _ _, .ListComp _ [_] _ _ => true
  | _, _, _, _ => false
mutual
def chkS (C : Ck) : CS → Stmt → Bool
  | .exp c, s => match s with
    | .Expr e _ => !compE e && (chk C c e).v
    | _ => false
  | .asg (.pat p) c, s => match s with
    | .Assign [tg] e pos => parB C p c tg e || chkP C p tg && !star1 tg && (chk C c e).v && (!(seqT tg && tupE e) || stN C tg e) && (!compE e || asgC p c tg e)
    | _ => false
  | .asg (.sub o i) c, s => match s with
    | .Assign [.Subscript x y _] e _ => !sl1 y && !compE e && (chk C o x).v && (chk C i y).v && (chk C c e).v
    | _ => false
  | .asg (.fld o f) c, s => match s with
    | .Assign [.Attribute x g _] e _ => decide (f = g) && !compE e && (chk C o x).v && (chk C c e).v
    | _ => false
  | .ret c, s => match s with
    | .Return (some e) _ => (chk C c e).v
    | _ => false
  | .retN, s => match s with
    | .Return none _ => true
    | _ => false
  | .ite c a b, s => match s with
    | .If e x y _ => (chk C c e).t && chkB C a x && chkB C b y
    | _ => false
  | .loop p c b, s => match s with
    | .For tg it x [] _ => chkP C p tg && !setE it && (match p with | .v _ => (chk C c it).iv | .t _ => (chk C c it).it) && chkB C b x
    | _ => false
  | .whl c b, s => match s with
    | .While e x [] _ => (chk C c e).t && chkB C b x
    | _ => false
  | .brk, s => match s with
    | .Break _ => true
    | _ => false
  | .cnt, s => match s with
    | .Continue _ => true
    | _ => false
  | .pass, s => match s with
    | .Pass _ => true
    | .Expr (.Constant (.str _) _ _) _ => true
    | _ => false
  | .never, _ => true
  | .aug i op c, s => match s with
    | .AugAssign (.Name x _) o e _ => decide (C.N[i]? = some x) && C.own x && (decide (op = .add) && decide (o = .Add) || decide (op = .sub) && decide (o = .Sub)) && (chk C c e).v
    | _ => false
  | .augF _ _ _ _, _ => false
  | .fz _, _ => false
  | .mtch _ _, _ => false
def chkB (C : Ck) : List CS → List Stmt → Bool
  | [], ss => ss.isEmpty
  | c :: cs, ss => match c with
    | .fz _ => chkB C cs ss
    | c' => match ss with
      | s :: ss => chkS C c s && chkB C cs ss
      | [] => false
end
section
variable {T : Tx} {G : Prg} {k : Nat} {C : Ck} {W : WX} {X : Cx}
mutual
theorem chkS_ok (F : Fx C T W G k X) (po : PassesOwn (model X.prog X.w) X.A X.env X.xe) : ∀ (c : CS) {s : Stmt}, chkS C c s = true → PS X s (tS T W (feOf G k) c)
  | .exp c, s, h => by
    unfold chkS at h
    split at h
    · simp only [Bool.and_eq_true, Bool.not_eq_true'] at h
      exact snd_exp ((chk_ok c F).v h.2) (swaps_of h.1)
    · cases h
  | .asg (.pat p) c, s, h => by
    unfold chkS at h
    split at h
    · rcases Bool.or_eq_true_iff.mp h with h | h
      · exact parB_ok F h
      simp only [Bool.and_eq_true] at h
      have hst := stN_ok F h.1.2
      simp only [Bool.not_eq_true'] at h
      cases hc : compE _ with
      | false => exact snd_asg ((chk_ok c F).v h.1.1.2) (chkP_ok F h.1.1.1.1) (swapsSole_of hc) hst (assign_one h.1.1.1.2)
      | true =>
        clear hst
        have h2 := h.2
        simp only [hc, Bool.true_eq_false, false_or, Bool.or_eq_true, Bool.not_eq_true'] at h2
        unfold asgC at h2
        split at h2
        · rename_i g _ _ _
          obtain ⟨tg, iter, tests, a⟩ := g
          exact asgC_ok F h.1.1.2 h.1.1.1.1
        · cases h2
    · cases h
  | .asg (.sub o i) c, s, h => by
    unfold chkS at h
    split at h
    · simp only [Bool.and_eq_true, Bool.not_eq_true'] at h
      exact snd_setS h.1.1.1.1 ((chk_ok o F).v h.1.1.2) ((chk_ok i F).v h.1.2) ((chk_ok c F).v h.2) (swapsSole_of h.1.1.1.2)
    · cases h
  | .asg (.fld o f) c, s, h => by
    unfold chkS at h
    split at h
    · simp only [Bool.and_eq_true, Bool.not_eq_true', decide_eq_true_eq] at h
      obtain ⟨⟨⟨rfl, h1⟩, h2⟩, h3⟩ := h
      exact snd_setF F.K (fun c z => F.U.fld c _ z) ((chk_ok o F).v h2) ((chk_ok c F).v h3) (swaps_of h1)
    · cases h
  | .ret c, s, h => by
    unfold chkS at h
    split at h
    · exact snd_ret ((chk_ok c F).v h)
    · cases h
  | .retN, s, h => by
    unfold chkS at h
    split at h
    · exact snd_retN
    · cases h
  | .ite c a b, s, h => by
    unfold chkS at h
    split at h
    · simp only [Bool.and_eq_true] at h
      exact snd_if ((chk_ok c F).t h.1.1) (chkB_ok F po a h.1.2) (chkB_ok F po b h.2)
    · cases h
  | .loop p c b, s, h => by
    unfold chkS at h
    split at h
    · simp only [Bool.and_eq_true, Bool.not_eq_true'] at h
      obtain ⟨⟨⟨h1, h2⟩, h3⟩, h4⟩ := h
      rename_i tg it x pos
      have hi : PI X tg it (tI T W (feOf G k) p c) := by
        cases p with
        | v i => exact (chk_ok c F).iv h3 tg i
        | t ps =>
          have h1 := h1
          unfold chkP at h1
          split at h1
          · exact (chk_ok c F).it h3 _ _ _ ps
          · cases h1
      exact snd_for po F.calm hi (chkP_ok F h1) (chkB_ok F po b h4) (folded_of h2)
    · cases h
  | .whl c b, s, h => by
    unfold chkS at h
    split at h
    · simp only [Bool.and_eq_true] at h
      exact snd_while po ((chk_ok c F).t h.1) (chkB_ok F po b h.2)
    · cases h
  | .brk, s, h => by
    unfold chkS at h
    split at h
    · exact snd_brk
    · cases h
  | .cnt, s, h => by
    unfold chkS at h
    split at h
    · exact snd_cnt
    · cases h
  | .pass, s, h => by
    unfold chkS at h
    split at h
    · exact snd_pass
    · exact snd_doc
    · cases h
  | .never, s, h => snd_never
  | .aug i op c, s, h => by
    unfold chkS at h
    split at h
    · simp only [Bool.and_eq_true, Bool.or_eq_true, decide_eq_true_eq] at h
      obtain ⟨⟨⟨h1, h2⟩, h3⟩, h4⟩ := h
      rcases h3 with ⟨rfl, rfl⟩ | ⟨rfl, rfl⟩
      · exact snd_aug (op := .add) (.inl rfl) (by rw [F.N]; exact F.nd) (by rw [F.N]; exact h1) (F.loc h2).1 (F.loc h2).2 ((chk_ok c F).v h4)
      · exact snd_aug (op := .sub) (.inr rfl) (by rw [F.N]; exact F.nd) (by rw [F.N]; exact h1) (F.loc h2).1 (F.loc h2).2 ((chk_ok c F).v h4)
    · cases h
  | .augF _ _ _ _, s, h => by unfold chkS at h; cases h
  | .fz _, s, h => by unfold chkS at h; cases h
  | .mtch _ _, s, h => by unfold chkS at h; cases h
theorem chkB_ok (F : Fx C T W G k X) (po : PassesOwn (model X.prog X.w) X.A X.env X.xe) : ∀ (cs : List CS) {ss : List Stmt}, chkB C cs ss = true → PSs X ss (tSs T W (feOf G k) cs)
  | [], ss, h => by
    unfold chkB at h
    cases ss with
    | nil => exact snd_snil
    | cons _ _ => cases h
  | c :: cs, ss, h => by
    unfold chkB at h
    split at h
    · exact snd_fz (chkB_ok F po cs h)
    · split at h
      · simp only [Bool.and_eq_true] at h
        exact snd_scons (chkS_ok F po c h.1) (chkB_ok F po cs h.2)
      · cases h
end
end
end Lc
end

section
set_option autoImplicit false
set_option linter.all false
set_option Elab.async false
set_option maxRecDepth 100000
/-! Ld: the law is called. -/
namespace Lc
open PySem L2 PySem.Spec PyProof.Rows
section
variable {P : Program} {w : World} {K : PySem.W.Frag} {mg mb : Str → Option Value} {k : Nat} {fa a : Addr} {fd : FuncData} {x : Str} {sp : Sp} {s1 : Shared} {vs : List Value} {ns : List Int}
/-- the law's def at the script, over an abstract heap that tracks the script at most -/
theorem law_over (inK : K.In s1.heap) (globs : s1.heap.Ns mainGlobals mg) (blts : s1.heap.Ns builtinsNs mb) (same : ∀ x : Str, x ≠ "__name__" → mb x = bootBuiltins x) (lim : s1.heap.NoLimit) (gens : s1.gens = #[])
    (script : s1.heap.get? a = some { cls := .type "list", data := .seq vs.toArray }) (room : Room k callerA)
    (F : ∀ base : Heap, K.In base → base.Ns mainGlobals mg → DefOk P w K mg base k fa fd [x] sp) (binds : ∀ (s : Shared) (u : Value), BindsTo s fd ⟨[u], []⟩ [(x, u)])
    {H : Hp} (only : Only H) (ok : HOk P w H s1.heap) (at_ : ∀ b, H b ≠ none → b = a) (notK : H a ≠ none → K.lookup a = none) (want : sp [.ref a] H (fun v _ => v = .bl true) fun _ _ _ => False) :
    codeAny (model P w) callerA (.call (.ref fa) ⟨[.ref a], []⟩) (fun r s' => r = .ok (.ret (.bool true)) ∧ OldK s1.heap s'.heap ∧ s'.os = s1.os ∧ AllBare s'.gens) s1 := by
  have free : ∀ {b : Addr}, b ≠ a → H b = none := fun {b} hb => by
    cases q : H b with
    | none => rfl
    | some u => exact absurd (at_ b (by rw [q]; nofun)) hb
  have shown : ∀ {b : Addr} {o : Obj}, s1.heap.get? b = some o → H b = none → (hidT s1.heap H).get? b = some o := fun e n => hidT_get e n
  have spaces : ∀ {b : Addr} {m : Str → Option Value}, s1.heap.Ns b m → (hidT s1.heap H).Ns b m := fun {b m} z => by
    obtain ⟨o, es, ep, e, d, r⟩ := z
    refine ⟨o, es, ep, shown e (free fun hb => ?_), d, r⟩
    rw [hb, script] at e
    cases e
    cases d
  have inB : K.In (hidT s1.heap H) := fun b o e => shown (inK b o e) (by
    by_cases hb : b = a
    · cases q : H b with
      | none => rfl
      | some u =>
        subst hb
        rw [notK (by rw [q]; nofun)] at e
        cases e
    · exact free hb)
  have mod : Mod K mg (hidT s1.heap H) := by
    obtain ⟨mc, l1, l2⟩ := lim
    exact ⟨inB, spaces globs, ⟨mb, spaces blts, same⟩, ⟨mc, spaces l1, l2⟩⟩
  have e0 : Env0 P w K mg (hidT s1.heap H) callerA [] s1 H := ⟨rfl, mod, fun b o e => of_hidT e, Nat.le_of_eq (hidT_size _ _), trivial, (fun b hb => by simp [frs] at hb), ok, .of_eq gens⟩
  refine codeAny_mono ((F _ inB (spaces globs)).run callerA [] s1 H ⟨[.ref a], []⟩ [.ref a] [.ref a] _ _ room rfl e0 (binds s1 (.ref a)) (.cons rfl .nil) want) fun r s' out => ?_
  rcases r with er | fl
  · obtain ⟨_, _, _, _, _, _, _, _, _, _, _, _, no⟩ := out
    exact no.elim
  · cases fl
    case ret u =>
      obtain ⟨v, H2, os, bare, un, ok2, rv, q⟩ := out
      obtain rfl : v = .bl true := q
      obtain rfl : u = Value.bool true := rv
      refine ⟨rfl, OldK.of_keep fun b o e => ?_, os, bare⟩
      rcases only b with z | ⟨ob, xs, z⟩
      · exact un.keep b o e z (by simp [frs]) (by simp)
      · have z2 := un.frzs b ob _ z
        obtain ⟨e1, _⟩ := ok b _ z
        obtain ⟨e2, _⟩ := ok2 b _ z2
        rw [e] at e1
        cases e1
        exact e2
    all_goals exact False.elim out
/-- the law's def at the script -/
theorem law_run (inK : K.In s1.heap) (globs : s1.heap.Ns mainGlobals mg) (blts : s1.heap.Ns builtinsNs mb) (same : ∀ x : Str, x ≠ "__name__" → mb x = bootBuiltins x) (lim : s1.heap.NoLimit) (gens : s1.gens = #[])
    (script : s1.heap.get? a = some { cls := .type "list", data := .seq vs.toArray }) (hin : IntsAre vs ns) (fits : ns.length ≤ sizeLine) (room : Room k callerA)
    (F : ∀ base : Heap, K.In base → base.Ns mainGlobals mg → DefOk P w K mg base k fa fd [x] sp) (binds : ∀ (s : Shared) (u : Value), BindsTo s fd ⟨[u], []⟩ [(x, u)])
    (want : ∀ H : Hp, Only H → SqL K H a (ns.map V.int) → sp [.ref a] H (fun v _ => v = .bl true) fun _ _ _ => False) :
    codeAny (model P w) callerA (.call (.ref fa) ⟨[.ref a], []⟩) (fun r s' => r = .ok (.ret (.bool true)) ∧ OldK s1.heap s'.heap ∧ s'.os = s1.os ∧ AllBare s'.gens) s1 := by
  have rel := vals_ints hin
  have len := hin.length
  cases known : K.lookup a with
  | some o =>
    have e := inK a o known
    rw [script] at e
    cases e
    have none : Only (fun _ => Option.none) := fun _ => .inl rfl
    refine law_over (H := fun _ => Option.none) inK globs blts same lim gens script room F binds none (fun b u z => by cases z) (fun b z => absurd rfl z) (fun z => absurd rfl z) (want _ none (.inr ⟨_, vs.toArray, _, known, rfl, rfl, rfl, ?_, by simpa using rel⟩))
    rw [List.size_toArray, len]
    exact fits
  | none =>
    let o : Obj := { cls := .type "list", data := .seq vs.toArray }
    let H : Hp := upd (fun _ => Option.none) a (.frz o (.lst (ns.map V.int)))
    have at_ : H a = some (.frz o (.lst (ns.map V.int))) := upd_same ..
    have other : ∀ {b : Addr}, b ≠ a → H b = Option.none := fun hb => upd_ne hb
    have only : Only H := fun b => by
      by_cases hb : b = a
      · subst hb
        exact .inr ⟨_, _, at_⟩
      · exact .inl (other hb)
    refine law_over (H := H) inK globs blts same lim gens script room F binds only (fun b u z => ?_) (fun b z => ?_) (fun _ => known) (want _ only (.inl (.inr ⟨o, at_⟩)))
    · by_cases hb : b = a
      · subst hb
        rw [at_] at z
        cases z
        exact ⟨script, by rw [List.length_map]; exact fits, vs, _, rel, script⟩
      · rw [other hb] at z
        cases z
    · by_cases hb : b = a
      · exact hb
      · exact absurd (other hb) z
end
/-- the goal of the head's walk, from the law's promise -/
theorem walk_g {l : PySem.W.OpenLaw} {n k : Nat} {q : Program} {loose : List Str} {XP : (Str → Option Value) → Heap → Prop} {YP : World → Heap → Prop} {d : DefRec} {x : Str} (hn : l.most = some n) (hn2 : n ≤ sizeLine) (hdf : d.params.defaults = []) (room : Room k callerA)
    (F : ∀ (w : World) (mg : Str → Option Value) (fa : Addr) (h : Heap), YP w h → h.Ns mainGlobals mg → mg d.name = some (.ref fa) →
      ∃ (K : PySem.W.Frag) (fd : FuncData) (sp : Sp), K.In h ∧ (∀ (s : Shared) (u : Value), BindsTo s fd ⟨[u], []⟩ [(x, u)]) ∧
        (∀ (H : Hp) (a : Addr) (ns : List Int), ns.length ≤ n → Only H → SqL K H a (ns.map V.int) → sp [.ref a] H (fun v _ => v = .bl true) fun _ _ _ => False) ∧
        ∀ base : Heap, K.In base → base.Ns mainGlobals mg → DefOk l.prog w K mg base k fa fd [x] sp) : PySem.W.WalkO q loose XP YP l.row.toRowW d [] (fun f vs => PySem.call f vs) := by
  refine Att.attach_call hn hdf fun w s0 s1 mg mb fa o pm cd doc a vs ns G Y ho hd hcd hmg hobj hints hlen hg => ?_
  obtain ⟨K, fd, sp, inK, binds, want, promise⟩ := F w mg fa _ Y G.T.g hmg
  exact law_run inK G.T.g G.T.b G.T.builtins G.T.nolimit hg hobj hints (Nat.le_trans hlen hn2) room promise binds fun H only sq => want H a ns hlen only sq
end Lc
end

section
set_option autoImplicit false
set_option linter.all false
set_option Elab.async false
set_option maxRecDepth 100000
/-! Ld: a program's table, and what the head tells of it. -/
namespace Lc
open PySem L2 PySem.Spec PyProof.Rows

/-! ### the head's look -/
/-- where a def's object lies -/
inductive At where
  | glo (x : Str) | meth (x m : Str) | prop (x m : Str) | cmet (x m : Str) | smet (x m : Str)
  deriving DecidableEq
def recA (K : PySem.W.Frag) (p : Addr) (kind : String) : Addr := match PySem.W.recIn K p kind with
  | some (.ref g :: _) => g
  | _ => 0
def At.of (K : PySem.W.Frag) : At → Addr
  | .glo x => He.ga K x
  | .meth x m => He.ma K (He.ga K x) m
  | .prop x m => recA K (He.ma K (He.ga K x) m) "property"
  | .cmet x m => recA K (He.ma K (He.ga K x) m) "classmethod"
  | .smet x m => recA K (He.ma K (He.ga K x) m) "staticmethod"
structure DefE where
  at_ : At
  name : Str
  qual : Str
  params : Arguments
  body : List Stmt
  scope : Scope
  dfl : List He.Dv := []
  kwd : List (Str × He.Dv) := []
def DefE.dvs (K : PySem.W.Frag) (d : DefE) : List V := d.dfl.map (He.Dv.v K)
def DefE.kws (K : PySem.W.Frag) (d : DefE) : List (Str × V) := d.kwd.map fun q => (q.1, q.2.v K)
def seenF : Option Obj → He.FnW
  | some ⟨_, _, .func f, _⟩ => some (f.name, f.qualname, f.params, f.body, f.scope, f.globals, f.closure, f.builtins)
  | _ => none
def goodF (K : PySem.W.Frag) (d : DefE) : Option Obj → Bool
  | some ⟨_, _, .func f, _⟩ => PySem.W.codeIn K f.code d.qual && He.dflB K f.defaults (d.dvs K) && He.kwdB K f.kwdefaults (d.kws K)
  | _ => false
def DefE.see (K : PySem.W.Frag) (d : DefE) : He.FnW := seenF (K.lookup (d.at_.of K))
def DefE.want (d : DefE) : He.FnW := some (d.name, d.qual, d.params, .stmts d.body, d.scope, mainGlobals, [], builtinsNs)
def DefE.good (K : PySem.W.Frag) (d : DefE) : Bool := PySem.W.keepIn K (.ref (d.at_.of K)) && goodF K d (K.lookup (d.at_.of K))
abbrev DefE.Is (K : PySem.W.Frag) (d : DefE) (fd : FuncData) : Prop := FunD K d.name d.qual d.params d.body d.scope (d.dvs K) (d.kws K) (d.at_.of K) fd
theorem DefE.is {K : PySem.W.Frag} {d : DefE} (e : d.see K = d.want) (c : d.good K = true) : ∃ fd, d.Is K fd := by
  unfold DefE.good at c
  obtain ⟨c1, c2⟩ := Bool.and_eq_true_iff.mp c
  unfold DefE.see at e
  cases q : K.lookup (d.at_.of K) with
  | none => rw [q] at c2; cases c2
  | some o =>
    rw [q] at c2 e
    obtain ⟨x1, x2, x3, x4⟩ := o
    cases x3 <;> try (cases c2)
    rename_i f
    obtain ⟨n1, n2, n3, n4, n5, n6, n7, n8, n9, n10, n11, n12, n13, n14, n15⟩ := f
    simp only [goodF, Bool.and_eq_true] at c2
    obtain ⟨⟨k1, k2⟩, k3⟩ := c2
    simp only [seenF, DefE.want, Option.some.injEq, Prod.mk.injEq] at e
    obtain ⟨h1, h2, h3, h4, h5, h6, h7, h8⟩ := e
    subst h1 h2 h3 h4 h5 h6 h7 h8
    exact ⟨_, ⟨x1, x2, n8, n9, n10, n11, n12, n13, n14, x4, rfl, q, k1, He.dflB_ok k2, He.kwdB_ok k3⟩, c1⟩
def lookAll (ex : PySem.W.Frag → Bool) (fn : List DefE) (K : PySem.W.Frag) : Bool × List He.FnW := (ex K && fn.all fun d => d.good K, fn.map fun d => d.see K)
def wantAll (fn : List DefE) : Bool × List He.FnW := (true, fn.map fun d => d.want)
/-- what the module's names reach; what stands for C's own -/
def reach (g : Addr → Option Obj) : Nat → List Addr
  | 0 => [mainGlobals, cStatics]
  | n + 1 => He.growD g (reach g n)
def hookL (n : Nat) (ex : PySem.W.Frag → Bool) (fn : List DefE) : PySem.W.Hook where
  α := Bool × List He.FnW
  obs := fun s => lookAll ex fn (He.frT s.heap.get? (reach s.heap.get? n))
  val := fun _ => wantAll fn
  says := fun _ h => ∃ K : PySem.W.Frag, K.In h ∧ lookAll ex fn K = wantAll fn
  of := fun _ _ e => ⟨_, He.frT_in, e⟩
  keeps := fun _ _ _ ⟨Kz, inz, cz⟩ kz => ⟨Kz, PySem.W.Frag.In.keeps inz kz, cz⟩
def obsL (n : Nat) (ex : PySem.W.Frag → Bool) (fn : List DefE) (s : PySem.W.SharedT) : Bool × List He.FnW := lookAll ex fn (He.frT (HandSHeadRun.getT s) (reach (HandSHeadRun.getT s) n))
theorem obsL_eq {n : Nat} {ex : PySem.W.Frag → Bool} {fn : List DefE} (s : PySem.W.SharedT) : obsL n ex fn s = (hookL n ex fn).obs s.abs := by
  have e : HandSHeadRun.getT s = s.abs.heap.get? := funext (HandSHeadRun.getT_eq s)
  unfold obsL
  rw [e]
  rfl
section
variable {ex : PySem.W.Frag → Bool} {fn : List DefE} {K : PySem.W.Frag}
theorem look_ex (c : lookAll ex fn K = wantAll fn) : ex K = true := (Bool.and_eq_true_iff.mp (congrArg (fun z : Bool × List He.FnW => z.1) c)).1
theorem look_def (c : lookAll ex fn K = wantAll fn) {d : DefE} (h : d ∈ fn) : ∃ fd, d.Is K fd := by
  have c1 := (Bool.and_eq_true_iff.mp (congrArg (fun z : Bool × List He.FnW => z.1) c)).2
  have c2 : fn.map (fun d => d.see K) = fn.map fun d => d.want := congrArg (fun z : Bool × List He.FnW => z.2) c
  exact DefE.is (List.map_inj_left.mp c2 d h) (List.all_eq_true.mp c1 d h)
end

/-! ### the table -/
/-- a def: its number, its text, its slots, parameters, core -/
structure DE where
  i : Nat
  d : DefE
  N : List Str
  ps : List Str
  fn : Fn
/-- an empty tuple of the module -/
def tup0 (K : PySem.W.Frag) (a : Addr) : Bool := match K.lookup a with
  | some ⟨.type c, none, .seq its _, _⟩ => decide (c = "tuple") && decide (its.size = 0)
  | _ => false
/-- a program: its table, classes by number, fields; where empty tuples lie -/
structure Pd where
  U : Uv
  tab : List DE
  cn : List (Nat × Str)
  flds : List (Nat × Str)
  emp : List (PySem.W.Frag → Addr) := []
def Pd.name (p : Pd) (c : Nat) : Str := (p.cn.lookup c).getD Str.empty
def find3 (c : Nat) (m : Str) (l : List (Nat × Str × Nat)) : Option Nat := (l.find? fun b => b.1 == c && b.2.1 == m).map (·.2.2)
def Pd.prg (p : Pd) : Prg where
  fn := fun j => (p.tab.find? fun e => e.i == j).map (·.fn)
  meth := fun c m => find3 c m p.U.meths
  fld := fun c f => p.flds.any fun b => b.1 == c && b.2 == f
  prop := fun c m => find3 c m p.U.props
  cmet := fun c m => find3 c m p.U.cmets
def Pd.tx (p : Pd) (K : PySem.W.Frag) (w : World) : Tx := ⟨K, w, fun c => He.ga K (p.name c)⟩
theorem find3_mem {c j : Nat} {m : Str} {l : List (Nat × Str × Nat)} (h : find3 c m l = some j) : (c, m, j) ∈ l := by
  unfold find3 at h
  cases q : l.find? (fun b => b.1 == c && b.2.1 == m) with
  | none => rw [q] at h; cases h
  | some b =>
    rw [q] at h
    have e := Option.some.inj h
    have h1 := List.find?_some q
    have h2 := List.mem_of_find?_eq_some q
    obtain ⟨b1, b2, b3⟩ := b
    simp only [Bool.and_eq_true, beq_iff_eq] at h1
    obtain ⟨rfl, rfl⟩ := h1
    cases e
    exact h2
/-! the facts, as one Bool of the part of the heap -/
inductive Fb where
  | prop (x m : Str) | cmet (x m : Str) | self (x : Str) | nobo (x : Str)
def clsV (K : PySem.W.Frag) (x : Str) : Value := (PySem.W.typeIn K (.ref (He.ga K x))).getD .none
def Fb.ok (K : PySem.W.Frag) : Fb → Bool
  | .prop x m => let p := He.ma K (He.ga K x) m; decide (PySem.W.findIn K (.ref (He.ga K x)) m = some (some (.ref p))) && decide (PySem.W.specialIn K (.ref p) "__get__" = some (some (.builtin "property.__get__"))) && decide (PySem.W.takesIn K (.ref p) = some true) && (match PySem.W.recIn K p "property" with | some (.ref _ :: _) => true | _ => false)
  | .cmet x m => let p := He.ma K (He.ga K x) m; PySem.W.readsIn K (He.ga K x) (clsV K x) && decide (PySem.W.specialIn K (.ref (He.ga K x)) "__getattribute__" = some (some (.builtin "type.__getattribute__"))) && (match PySem.W.findCls K (.ref (He.ga K x)) (clsV K x) m with
      | some (.get (.builtin s) (.ref q) .none (.ref C)) => decide (s = "classmethod.__get__") && decide (q = p) && decide (C = He.ga K x)
      | _ => false) && (match PySem.W.recIn K p "classmethod" with | some (.ref g :: _) => PySem.W.fnIn K g | _ => false)
  | .nobo x => decide (PySem.W.findIn K (.ref (He.ga K x)) "__bool__" = some none)
  | .self x => PySem.W.selfFirst K (He.ga K x) && PySem.W.notFirst K (He.ga K x) (.ref (He.ga K x))
def Pd.fas (p : Pd) : List He.Fa :=
  (p.U.glob.map fun b => match b.2 with | .blt => .free b.1 | _ => .glo b.1) ++ (p.cn.map fun b => .cls b.2) ++ (p.U.meths.map fun b => .meth (p.name b.1) b.2.1) ++ (p.flds.map fun b => .noat (p.name b.1) b.2) ++ (p.U.meths.filterMap fun b => if b.2.1 = sInit then some (.mkr (p.name b.1)) else none)
def Pd.fbs (p : Pd) : List Fb := (p.U.props.map fun b => .prop (p.name b.1) b.2.1) ++ (p.U.cmets.map fun b => .cmet (p.name b.1) b.2.1) ++ (p.cn.map fun b => .self b.2) ++ (p.U.meths.filterMap fun b => if b.2.1 = sLen then some (.nobo (p.name b.1)) else none)
def Pd.ex (p : Pd) (K : PySem.W.Frag) : Bool := (p.fas.all fun f => f.ok K) && (p.fbs.all fun f => f.ok K) && p.emp.all fun f => tup0 K (f K)
def scopeB (N ps : List Str) (sc : Scope) : Bool := (match sc.kind with | .function => true | _ => false) && !sc.isCoroutine && !sc.isGenerator && decide N.Nodup && decide (N.take ps.length = ps) &&
  (ps.all fun x => decide (sc.names.lookup x = some .local) || decide (sc.names.lookup x = some .cell)) && sc.names.all fun y => !decide (y.2 = .free)
theorem scope_of {N ps : List Str} {sc : Scope} (h : scopeB N ps sc = true) : FnScope N ps sc := by
  simp only [scopeB, Bool.and_eq_true, decide_eq_true_eq, Bool.not_eq_true', List.all_eq_true, Bool.or_eq_true, decide_eq_false_iff_not] at h
  obtain ⟨⟨⟨⟨⟨⟨h1, h2⟩, h3⟩, h4⟩, h5⟩, h6⟩, h7⟩ := h
  refine ⟨?_, h2, h3, h4, h5, h6, h7⟩
  split at h1
  · assumption
  · cases h1
def iota (n : Nat) : List (Nat ⊕ D) := (List.range n).map .inl
def Pd.defB (p : Pd) (e : DE) : Bool := scopeB e.N e.ps e.d.scope && decide (e.ps.length = e.fn.np) && decide (e.N.length = e.fn.ns) && chkB ⟨e.N, e.d.scope, e.d.scope, p.U⟩ e.fn.body e.d.body
def Pd.has (p : Pd) (j : Nat) (a : At) : Bool := p.tab.any fun e => e.i == j && e.d.at_ == a
def Pd.bindB (p : Pd) (j n : Nat) : Bool := p.U.bind j n [] (iota n) && p.tab.any fun e => e.i == j && (e.fn.np == n) && (e.ps.length == n)
def dunN (m : Str) : Option Nat := if m = sEq ∨ m = sIn ∨ m = sOr ∨ m = sAnd then some 2 else if m = sLen ∨ m = sStr ∨ m = sRepr then some 1 else none
def Pd.ok (p : Pd) : Bool := decide (p.tab.map (·.i)).Nodup && (p.tab.all fun e => p.defB e) &&
  (p.U.glob.all fun b => match b.2 with | .fn i => p.has i (.glo b.1) | .cls c => decide (p.cn.lookup c = some b.1) && (find3 c sInit p.U.meths).isSome | .blt => true) &&
  (p.U.meths.all fun b => (p.cn.any fun z => z.1 == b.1) && p.has b.2.2 (.meth (p.name b.1) b.2.1) && (match dunN b.2.1 with | some n => p.bindB b.2.2 n | none => true)) &&
  (p.U.props.all fun b => (p.cn.any fun z => z.1 == b.1) && p.has b.2.2 (.prop (p.name b.1) b.2.1) && p.bindB b.2.2 1) &&
  (p.U.cmets.all fun b => (p.cn.any fun z => z.1 == b.1) && p.has b.2.2 (.cmet (p.name b.1) b.2.1) && decide (find3 b.1 b.2.1 p.U.cmets = some b.2.2)) &&
  (p.flds.all fun b => p.cn.any fun z => z.1 == b.1) &&
  (p.cn.all fun z => decide (p.cn.lookup z.1 = some z.2)) &&
  p.U.binds.all fun b => (p.tab.all fun e => !(e.i == b.1) || decide (b.2.2.2.length = e.fn.np))
/-- the ways of calling bind -/
def Pd.Binds (p : Pd) (K : PySem.W.Frag) (w : World) : Prop := ∀ b ∈ p.U.binds, ∀ e ∈ p.tab, e.i = b.1 → ∀ fd, e.d.Is K fd → BindP (p.tx K w) fd e.ps b.2.1 b.2.2.1 b.2.2.2
end Lc
end

section
set_option autoImplicit false
set_option linter.all false
set_option Elab.async false
set_option maxRecDepth 100000
/-! Ld: from the table to the promises of all defs, at all depths. -/
namespace Lc
open PySem L2 PySem.Spec PyProof.Rows
theorem pick_iota {α : Type} (us : List α) (dv : List α) : ∀ (k n : Nat), k + n = us.length → pickG us ((List.range' k n).map .inl) dv = some (us.drop k)
  | k, 0, h => by
    have e : us.drop k = [] := List.drop_eq_nil_of_le (by omega)
    rw [e]; rfl
  | k, n + 1, h => by
    have hk : k < us.length := by omega
    have ih := pick_iota us dv (k + 1) n (by omega)
    rw [List.range'_succ, List.map_cons]
    simp only [pickG, List.getElem?_eq_getElem hk, ih]
    rw [List.drop_eq_getElem_cons hk]
theorem pick_all {α : Type} (us dv : List α) : pickG us (iota us.length) dv = some us := by
  have h := pick_iota us dv 0 us.length (by omega)
  rw [List.drop_zero] at h
  unfold iota
  rw [List.range_eq_range']
  exact h
/-- all given by place -/
theorem BindP.pos {T : Tx} {fd : FuncData} {ps : List Str} {n : Nat} (B : BindP T fd ps n [] (iota n)) {s : Shared} {us : List Value} (h : T.K.In s.heap) (l : us.length = n) : BindsTo s fd ⟨us, []⟩ (ps.zip us) := by
  obtain ⟨dv, dV, _, _, q⟩ := B.ex
  refine q s us [] us h l rfl ?_
  rw [List.append_nil, ← l]
  exact pick_all us dv
section
variable {p : Pd} {P : Program} {w : World} {K : PySem.W.Frag} {mg : Str → Option Value} {base : Heap} {k : Nat}
/-- every def keeps its promise at depth k -/
def Pd.Deep (p : Pd) (P : Program) (w : World) (K : PySem.W.Frag) (mg : Str → Option Value) (base : Heap) (k : Nat) : Prop :=
  ∀ e ∈ p.tab, ∀ fd, e.d.Is K fd → DefOk P w K mg base (4 * k) (e.d.at_.of K) fd e.ps (spF p.prg (p.tx K w) k e.i e.fn.np)
theorem Pd.okTab (h : p.ok = true) {e : DE} (m : e ∈ p.tab) : p.defB e = true := by
  simp only [Pd.ok, Bool.and_eq_true] at h
  exact List.all_eq_true.mp h.1.1.1.1.1.1.1.2 e m
theorem Pd.hasOk {j : Nat} {a : At} (h : p.has j a = true) : ∃ e ∈ p.tab, e.i = j ∧ e.d.at_ = a := by
  simp only [Pd.has, List.any_eq_true, Bool.and_eq_true, beq_iff_eq] at h
  exact h
theorem find_nodup {l : List DE} (nd : (l.map (·.i)).Nodup) {e : DE} (m : e ∈ l) : l.find? (fun z => z.i == e.i) = some e := by
  induction l with
  | nil => cases m
  | cons a l ih =>
    rw [List.map_cons, List.nodup_cons] at nd
    rcases List.mem_cons.mp m with rfl | m
    · simp
    · have ne : a.i ≠ e.i := fun q => nd.1 (q ▸ List.mem_map_of_mem m)
      rw [List.find?_cons_of_neg (by simpa using ne)]
      exact ih nd.2 m
theorem Pd.fnAt (h : p.ok = true) {e : DE} (m : e ∈ p.tab) : p.prg.fn e.i = some e.fn := by
  simp only [Pd.ok, Bool.and_eq_true, decide_eq_true_eq] at h
  show (p.tab.find? fun z => z.i == e.i).map (·.fn) = some e.fn
  rw [find_nodup h.1.1.1.1.1.1.1.1 m]
  rfl
structure Pd.Seen (p : Pd) (K : PySem.W.Frag) (w : World) (mg : Str → Option Value) (h : Heap) : Prop where
  ok : p.ok = true
  inK : K.In h
  ns : h.Ns mainGlobals mg
  ex : p.ex K = true
  is : ∀ e ∈ p.tab, ∃ fd, e.d.Is K fd
  binds : p.Binds K w
theorem Pd.Seen.fa {h : Heap} (S : p.Seen K w mg h) {f : He.Fa} (m : f ∈ p.fas) : f.ok K = true := by
  have e := S.ex
  simp only [Pd.ex, Bool.and_eq_true] at e
  exact List.all_eq_true.mp e.1.1 f m
theorem Pd.Seen.fb {h : Heap} (S : p.Seen K w mg h) {f : Fb} (m : f ∈ p.fbs) : f.ok K = true := by
  have e := S.ex
  simp only [Pd.ex, Bool.and_eq_true] at e
  exact List.all_eq_true.mp e.1.2 f m
theorem Pd.Seen.defF {h : Heap} (S : p.Seen K w mg h) (D : p.Deep P w K mg base k) {e : DE} (m : e ∈ p.tab) : DefF (p.tx K w) p.U p.prg k P w mg base e.i (e.d.at_.of K) := by
  obtain ⟨fd, F⟩ := S.is e m
  refine ⟨fd, e.ps, e.fn.np, D e m fd F, fun n ks as hb => ?_⟩
  obtain ⟨b, hb1, hb2⟩ := List.any_eq_true.mp hb
  simp only [Bool.and_eq_true, beq_iff_eq, decide_eq_true_eq] at hb2
  obtain ⟨⟨⟨q1, q2⟩, q3⟩, q4⟩ := hb2
  have o := S.ok
  simp only [Pd.ok, Bool.and_eq_true] at o
  have o := List.all_eq_true.mp (List.all_eq_true.mp o.2 b hb1) e m
  simp only [Bool.or_eq_true, Bool.not_eq_true', beq_eq_false_iff_ne, decide_eq_true_eq] at o
  have B := S.binds b hb1 e m q1.symm fd F
  rw [q2, q3, q4] at B
  refine ⟨?_, B⟩
  rcases o with o | o
  · exact absurd q1.symm o
  · rw [← q4]; exact o
theorem Pd.Seen.cls {h : Heap} (S : p.Seen K w mg h) {c : Nat} (hc : (p.cn.any fun z => z.1 == c) = true) : Cls K (He.ga K (p.name c)) ∧ (Fb.self (p.name c)).ok K = true := by
  obtain ⟨z, hz, e⟩ := List.any_eq_true.mp hc
  have e := beq_iff_eq.mp e
  have o := S.ok
  simp only [Pd.ok, Bool.and_eq_true] at o
  have o := List.all_eq_true.mp o.1.2 z hz
  simp only [decide_eq_true_eq] at o
  rw [e] at o
  have en : p.name c = z.2 := by
    unfold Pd.name
    rw [o]
    rfl
  rw [en]
  refine ⟨He.cls_ok (S.fa ?_), S.fb ?_⟩
  · unfold Pd.fas
    simp only [List.mem_append, List.mem_map]
    exact .inl (.inl (.inl (.inr ⟨z, hz, rfl⟩)))
  · unfold Pd.fbs
    simp only [List.mem_append, List.mem_map]
    exact .inl (.inr ⟨z, hz, rfl⟩)
theorem Pd.Seen.ux {h : Heap} (S : p.Seen K w mg h) (D : p.Deep P w K mg base k) : Ux p.U (p.tx K w) p.prg k P w mg base := by
  have ok := S.ok
  simp only [Pd.ok, Bool.and_eq_true] at ok
  obtain ⟨⟨⟨⟨⟨⟨⟨⟨_, ok1⟩, okG⟩, okM⟩, okP⟩, okC⟩, okF⟩, okN⟩, okB⟩ := ok
  have glo : ∀ x g, p.U.glob.lookup x = some g → g ≠ .blt → mg x = some (.ref (He.ga K x)) := fun x g e ne => by
    refine He.glo_ok S.inK S.ns (S.fa ?_)
    unfold Pd.fas
    simp only [List.mem_append, List.mem_map]
    refine .inl (.inl (.inl (.inl ⟨(x, g), PySem.mem_of_lookup e, ?_⟩)))
    cases g <;> first | rfl | exact absurd rfl ne
  have hm : ∀ c m j, p.prg.meth c m = some j → (c, m, j) ∈ p.U.meths := fun c m j e => find3_mem e
  have meth : ∀ c m j, p.prg.meth c m = some j → Cls K (He.ga K (p.name c)) ∧ ∃ e ∈ p.tab, e.i = j ∧ e.d.at_ = .meth (p.name c) m ∧ Meth K (He.ga K (p.name c)) m (e.d.at_.of K) ∧ (match dunN m with | some n => p.bindB j n = true | none => True) := fun c m j e => by
    have z := hm c m j e
    have o := List.all_eq_true.mp okM _ z
    simp only [Bool.and_eq_true] at o
    obtain ⟨⟨o1, o2⟩, o3⟩ := o
    obtain ⟨e1, m1, i1, a1⟩ := Pd.hasOk o2
    refine ⟨(S.cls o1).1, e1, m1, i1, a1, ?_, ?_⟩
    · rw [a1]
      refine He.meth_ok (S.fa ?_)
      unfold Pd.fas
      simp only [List.mem_append, List.mem_map]
      exact .inl (.inl (.inr ⟨_, z, rfl⟩))
    · revert o3
      cases dunN m with
      | none => intro _; trivial
      | some n => exact fun z => z
  refine ⟨fun x i e => ?_, fun x c e => ?_, fun x e => ?_, hm, fun c m j e => ?_, fun c j e => ?_, fun x c e => ?_, fun c m j e => ?_, fun c f e => ?_, fun c m e => ?_, fun c j e => ?_, fun m np hd c j e => ?_⟩
  · have o := List.all_eq_true.mp okG _ (PySem.mem_of_lookup e)
    obtain ⟨e1, m1, i1, a1⟩ := Pd.hasOk (p := p) (by simpa using o)
    obtain ⟨fd, F⟩ := S.is e1 m1
    have ea : e1.d.at_.of K = He.ga K x := by rw [a1]; rfl
    refine ⟨He.ga K x, glo x _ e nofun, ?_, ?_⟩
    · rw [← ea]; exact F.kp
    · rw [← ea, ← i1]; exact S.defF D m1
  · have o := List.all_eq_true.mp okG _ (PySem.mem_of_lookup e)
    simp only [Bool.and_eq_true, decide_eq_true_eq] at o
    have en : p.name c = x := by
      unfold Pd.name
      rw [o.1]
      rfl
    show mg x = some (.ref (He.ga K (p.name c)))
    rw [en]
    exact glo x _ e nofun
  · refine He.free_ok S.inK S.ns (S.fa ?_)
    unfold Pd.fas
    simp only [List.mem_append, List.mem_map]
    exact .inl (.inl (.inl (.inl ⟨_, PySem.mem_of_lookup e, rfl⟩)))
  · obtain ⟨h1, e1, m1, i1, _, h2, _⟩ := meth c m j e
    exact ⟨h1, _, h2, by rw [← i1]; exact S.defF D m1⟩
  · obtain ⟨h1, e1, m1, i1, a1, h2, _⟩ := meth c sInit j e
    refine ⟨e1.d.at_.of K, ?_, by rw [← i1]; exact S.defF D m1⟩
    rw [a1]
    refine He.mkr_ok (S.fa ?_)
    unfold Pd.fas
    simp only [List.mem_append, List.mem_filterMap]
    exact .inr ⟨_, hm c sInit j e, if_pos rfl⟩
  · have o := List.all_eq_true.mp okG _ (PySem.mem_of_lookup e)
    simp only [Bool.and_eq_true] at o
    exact o.2
  · have z : (c, m, j) ∈ p.U.props := find3_mem e
    have o := List.all_eq_true.mp okP _ z
    simp only [Bool.and_eq_true] at o
    obtain ⟨⟨o1, o2⟩, o3⟩ := o
    obtain ⟨e1, m1, i1, a1⟩ := Pd.hasOk o2
    obtain ⟨fd, F⟩ := S.is e1 m1
    have f : (Fb.prop (p.name c) m).ok K = true := S.fb (by
      unfold Pd.fbs
      simp only [List.mem_append, List.mem_map]
      exact .inl (.inl (.inl ⟨_, z, rfl⟩)))
    simp only [Fb.ok, Bool.and_eq_true, decide_eq_true_eq] at f
    obtain ⟨⟨⟨f1, f2⟩, f3⟩, f4⟩ := f
    simp only [Pd.bindB, Bool.and_eq_true] at o3
    obtain ⟨b1, b2⟩ := o3
    obtain ⟨e2, m2, b2⟩ := List.any_eq_true.mp b2
    obtain ⟨fd', ps', np', _, q⟩ := (S.defF D m1).ex
    have bb := (S.defF D m1)
    have B : BindP (p.tx K w) fd e1.ps 1 [] (iota 1) ∧ (iota 1).length = e1.fn.np := by
      obtain ⟨b, hb1, hb2⟩ := List.any_eq_true.mp b1
      simp only [Bool.and_eq_true, beq_iff_eq, decide_eq_true_eq] at hb2
      obtain ⟨⟨⟨q1, q2⟩, q3⟩, q4⟩ := hb2
      have B := S.binds b hb1 e1 m1 (i1.trans q1.symm) fd F
      rw [q2, q3, q4] at B
      have o := List.all_eq_true.mp (List.all_eq_true.mp okB b hb1) e1 m1
      simp only [Bool.or_eq_true, Bool.not_eq_true', beq_eq_false_iff_ne, decide_eq_true_eq] at o
      refine ⟨B, ?_⟩
      rcases o with o | o
      · exact absurd (i1.trans q1.symm) o
      · rw [← q4]; exact o
    have en : e1.fn.np = 1 := B.2.symm
    have lp : e1.ps.length = 1 := by
      have d := Pd.okTab S.ok m1
      simp only [Pd.defB, Bool.and_eq_true, decide_eq_true_eq] at d
      exact d.1.1.2.trans en
    refine ⟨(S.cls o1).1, He.ma K (He.ga K (p.name c)) m, e1.d.at_.of K, fd, e1.ps, ⟨f1, f2, f3, ?_⟩, ?_, fun s us inS hl => ?_⟩
    · rw [a1]
      show ∃ rest, PySem.W.recIn K (He.ma K (He.ga K (p.name c)) m) "property" = some (.ref (recA K (He.ma K (He.ga K (p.name c)) m) "property") :: rest)
      unfold recA
      revert f4
      cases q : PySem.W.recIn K (He.ma K (He.ga K (p.name c)) m) "property" with
      | none => intro f4; cases f4
      | some l =>
        cases l with
        | nil => intro f4; cases f4
        | cons v r => cases v <;> intro f4 <;> first | (cases f4; done) | exact ⟨r, rfl⟩ | exact ⟨r, q⟩
    · have := D e1 m1 fd F
      rw [i1, en] at this
      exact this
    · rw [List.append_nil] at hl ⊢
      exact B.1.pos inS (hl.trans lp)
  · obtain ⟨b, hb, e⟩ := List.any_eq_true.mp (show (p.flds.any fun b => b.1 == c && b.2 == f) = true from e)
    simp only [Bool.and_eq_true, beq_iff_eq] at e
    have o := List.all_eq_true.mp okF b hb
    rw [e.1] at o
    refine ⟨(S.cls o).1, He.noat_ok (S.fa ?_)⟩
    unfold Pd.fas
    simp only [List.mem_append, List.mem_map]
    exact .inl (.inr ⟨b, hb, by rw [e.1, e.2]⟩)
  · obtain ⟨b, hb, e⟩ := List.any_eq_true.mp e
    simp only [Bool.and_eq_true, decide_eq_true_eq] at e
    have o := List.all_eq_true.mp okC b hb
    simp only [Bool.and_eq_true, decide_eq_true_eq] at o
    obtain ⟨⟨o1, o2⟩, o3⟩ := o
    rw [e.1, e.2] at o3 o2
    obtain ⟨e1, m1, i1, a1⟩ := Pd.hasOk o2
    have f : (Fb.cmet (p.name c) m).ok K = true := S.fb (by
      unfold Pd.fbs
      simp only [List.mem_append, List.mem_map]
      exact .inl (.inl (.inr ⟨b, hb, by rw [e.1, e.2]⟩)))
    simp only [Fb.ok, Bool.and_eq_true, decide_eq_true_eq] at f
    obtain ⟨⟨⟨f1, f2⟩, f3⟩, f4⟩ := f
    have eo : e1.d.at_.of K = recA K (He.ma K (He.ga K (p.name c)) m) "classmethod" := by rw [a1]; rfl
    refine ⟨b.2.2, clsV K (p.name c), He.ma K (He.ga K (p.name c)) m, e1.d.at_.of K, o3, ?_, ⟨f1, f2⟩, ⟨?_, ?_, ?_⟩, by rw [← i1]; exact S.defF D m1⟩
    · obtain ⟨b1, b2, b3⟩ := b
      simp only at e
      rw [← e.1, ← e.2]
      exact hb
    · show PySem.W.findCls K (.ref (He.ga K (p.name c))) (clsV K (p.name c)) m = _
      revert f3
      split
      · rename_i z
        intro f3
        simp only [Bool.and_eq_true, decide_eq_true_eq] at f3
        rw [z, f3.1.1, f3.1.2, f3.2]
        rfl
      · intro f3; cases f3
    · rw [eo]
      unfold recA
      revert f4
      cases q : PySem.W.recIn K (He.ma K (He.ga K (p.name c)) m) "classmethod" with
      | none => intro f4; cases f4
      | some l =>
        cases l with
        | nil => intro f4; cases f4
        | cons v r => cases v <;> intro f4 <;> first | (cases f4; done) | exact ⟨r, rfl⟩ | exact ⟨r, q⟩
    · rw [eo]
      unfold recA
      revert f4
      cases q : PySem.W.recIn K (He.ma K (He.ga K (p.name c)) m) "classmethod" with
      | none => intro f4; cases f4
      | some l =>
        cases l with
        | nil => intro f4; cases f4
        | cons v r => cases v <;> intro f4 <;> first | (cases f4; done) | exact f4
  · have f : (Fb.nobo (p.name c)).ok K = true := S.fb (by
      unfold Pd.fbs
      simp only [List.mem_append, List.mem_filterMap]
      exact .inr ⟨_, hm c sLen j e, if_pos rfl⟩)
    exact of_decide_eq_true f
  · obtain ⟨h1, e1, m1, i1, a1, h2, h3⟩ := meth c m j e
    have hn : dunN m = some np := by
      rcases hd with ⟨rfl, rfl⟩ | ⟨rfl, rfl⟩ | ⟨rfl, rfl⟩ | ⟨rfl, rfl⟩ | ⟨rfl, rfl⟩ | ⟨rfl, rfl⟩ | ⟨rfl, rfl⟩ <;> decide
    rw [hn] at h3
    simp only at h3
    simp only [Pd.bindB, Bool.and_eq_true] at h3
    obtain ⟨b1, b2⟩ := h3
    obtain ⟨fd, F⟩ := S.is e1 m1
    obtain ⟨b, hb1, hb2⟩ := List.any_eq_true.mp b1
    simp only [Bool.and_eq_true, beq_iff_eq, decide_eq_true_eq] at hb2
    obtain ⟨⟨⟨q1, q2⟩, q3⟩, q4⟩ := hb2
    have B := S.binds b hb1 e1 m1 (i1.trans q1.symm) fd F
    rw [q2, q3, q4] at B
    have o := List.all_eq_true.mp (List.all_eq_true.mp okB b hb1) e1 m1
    simp only [Bool.or_eq_true, Bool.not_eq_true', beq_eq_false_iff_ne, decide_eq_true_eq] at o
    have en : e1.fn.np = np := by
      rcases o with o | o
      · exact absurd (i1.trans q1.symm) o
      · rw [← o, q4]
        simp [iota]
    have z := List.all_eq_true.mp okM _ (hm c m j e)
    simp only [Bool.and_eq_true] at z
    have sf := (S.cls z.1.1).2
    simp only [Fb.ok, Bool.and_eq_true] at sf
    refine ⟨sf.1, sf.2, e1.d.at_.of K, fd, e1.ps, h2, ?_, fun s us inS hl => B.pos inS hl⟩
    have := D e1 m1 fd F
    rw [i1, en] at this
    exact this
theorem fx_def {G : Prg} {T : Tx} {U : Uv} {N ps : List Str} {qual : Str} {scope : Scope} {f : Addr} {cdv : Value} {A : Around} {outer : List Env} {s : Shared} {H : Hp} {Ex : XK} (S : FnScope N ps scope) (room : Room (4 * k + 3) (A.deeper (envOfC qual scope s.heap.objs.size f cdv))) (gds : A.guards = some []) (u : Ux U T G k P w mg base) :
    Fx ⟨N, scope, scope, U⟩ T (WE0 Ex) G k (cxOf (L2.CX P w) P w T.K mg base N qual scope f cdv A outer s H Ex) where
  K := rfl
  N := rfl
  nd := S.nd
  sc := rfl
  kind := S.kind
  own := fun _ _ _ h => h
  fn := fun _ _ => rfl
  calm := rfl
  room := room
  gds := gds
  tk := takes_of rfl rfl rfl rfl
  U := u
theorem Pd.Seen.deep {h : Heap} (S : p.Seen K w mg h) : ∀ k, p.Deep P w K mg base k
  | 0 => fun e m fd F => by
    have d := Pd.okTab S.ok m
    simp only [Pd.defB, Bool.and_eq_true, decide_eq_true_eq] at d
    refine ⟨fun vs H Q E z => z.1.trans d.1.1.2.symm, fun A outer s H args us vs Q E _ _ _ _ _ z => ?_⟩
    obtain ⟨_, _, _, _, _, _, z⟩ := z
    exact z.elim
  | k + 1 => fun e m fd F => by
    have d := Pd.okTab S.ok m
    simp only [Pd.defB, Bool.and_eq_true, decide_eq_true_eq] at d
    obtain ⟨⟨⟨d1, d2⟩, d3⟩, d4⟩ := d
    have sc := scope_of d1
    have u := S.ux (Pd.Seen.deep S k)
    exact body_ok (Pd.fnAt S.ok m) F sc d2 d3 fun cdv A outer s H Ex room gds => chkB_ok (fx_def sc room gds u) (passes_of rfl) _ d4
end
end Lc
end

section
set_option autoImplicit false
set_option linter.all false
set_option Elab.async false
set_option maxRecDepth 100000
/-! Ld: binding, and the law's end. -/
namespace Lc
open PySem L2 PySem.Spec PyProof.Rows
/-- the j-th statement of a class -/
def stmIn (s : Stmt) (j : Nat) : Stmt := match s with
  | .ClassDef _ _ _ b _ _ _ _ _ _ _ => b.getD j (.Pass ⟨0, 0, 0, 0⟩)
  | _ => .Pass ⟨0, 0, 0, 0⟩
/-- the i-th default of a def; a keyword's default -/
def dflA (a : At) (i : Nat) (K : PySem.W.Frag) : Addr := match K.lookup (a.of K) with
  | some ⟨_, _, .func f, _⟩ => (match f.defaults with
    | .ref t => (match K.lookup t with
      | some ⟨_, _, .seq its _, _⟩ => (match its.toList[i]? with | some (.ref b) => b | _ => 0)
      | _ => 0)
    | _ => 0)
  | _ => 0
def kwdA (a : At) (x : Str) (K : PySem.W.Frag) : Addr := match K.lookup (a.of K) with
  | some ⟨_, _, .func f, _⟩ => (match f.kwdefaults with
    | .ref t => (match PySem.W.nsIn K t x with | some (some (.ref b)) => b | _ => 0)
    | _ => 0)
  | _ => 0
theorem tup0_ok {T : Tx} {ω : Wd} {a : Addr} (h : tup0 T.K a = true) : RepD T ω (.tup []) (.ref a) := by
  unfold tup0 at h
  split at h
  · rename_i c its n sl q
    simp only [Bool.and_eq_true, decide_eq_true_eq] at h
    obtain ⟨rfl, hz⟩ := h
    refine .tup (vs := []) (.inr ⟨_, its, n, q, rfl, rfl, rfl, ?_, ?_⟩) .nil
    · rw [hz]; exact Nat.zero_le _
    · have : its.toList = [] := List.eq_nil_of_length_eq_zero (by simpa using hz)
      rw [this]
      exact .nil
  · cases h
/-- a default's value, as a datum -/
def dvB (K : PySem.W.Frag) : He.Dv → D → Bool
  | .non, .non => true
  | .bl a, .bl b => a == b
  | .int i, .int j => decide (i = j)
  | .str x, .str y => decide (x = y)
  | .adr p, .tup [] => tup0 K (p K)
  | _, _ => false
theorem dv_ok {T : Tx} {ω : Wd} {v : He.Dv} {d : D} (h : dvB T.K v d = true) : RepD T ω d (v.v T.K) := by
  unfold dvB at h
  split at h
  · exact .non
  · rw [eq_of_beq h]; exact .bl _
  · rw [of_decide_eq_true h]; exact .int _
  · rw [of_decide_eq_true h]; exact .str _
  · exact tup0_ok h
  · cases h
def dvBs (K : PySem.W.Frag) : List He.Dv → List D → Bool
  | [], [] => true
  | v :: vs, d :: ds => dvB K v d && dvBs K vs ds
  | _, _ => false
theorem dvs_ok {T : Tx} {ω : Wd} : ∀ {vs : List He.Dv} {ds : List D}, dvBs T.K vs ds = true → RepL T ω ds (vs.map (He.Dv.v T.K))
  | [], [], _ => .nil
  | v :: vs, d :: ds, h => by
    simp only [dvBs, Bool.and_eq_true] at h
    exact .cons (dv_ok h.1) (dvs_ok h.2)
  | [], _ :: _, h => by cases h
  | _ :: _, [], h => by cases h
section
variable {K : PySem.W.Frag} {T : Tx} {x qual : Str} {params : Arguments} {body : List Stmt} {scope : Scope} {kws : List (Str × V)} {f : Addr} {fd : FuncData} {ps ks : List Str} {n : Nat} {as : List (Nat ⊕ D)}
theorem bind_plain (F : FunD T.K x qual params body scope [] [] f fd) (hd : dfls as = [])
    (h : ∀ (kV doc pm : Value) (an : Option Addr) (cdv ct : Value) (us ws us' : List Value), us.length = n → ws.length = ks.length → pickG (us ++ ws) as [] = some us' → bindArgs (PySem.W.fnOf x qual params body scope .none kV doc pm an cdv ct) ⟨us, ks.zip ws⟩ = pure (ps.zip us')) : BindP T fd ps n ks as := by
  obtain ⟨oc, od, dV, kV, doc, pm, an, cdv, ct, osl, rfl, lk, hcd, hD, hK⟩ := F.ex
  rcases hD with ⟨_, rfl⟩ | ⟨e, _⟩
  · exact ⟨[], [], .nil, fun ω => by rw [hd]; exact .nil, fun s us ws us' _ h1 h2 h3 => .of_eq (h kV doc pm an cdv ct us ws us' h1 h2 h3)⟩
  · exact absurd rfl e
theorem vals_pick {vs : List V} {us : List Value} (r : Vals vs us) : ∀ js : List Nat, Vals (js.filterMap fun j => vs[j]?) (js.filterMap fun j => us[j]?)
  | [] => .nil
  | j :: js => by
    have ih := vals_pick r js
    cases e : vs[j]? with
    | some v =>
      obtain ⟨u, h1, h2⟩ := r.get e
      rw [List.filterMap_cons, List.filterMap_cons, e, h1]
      exact .cons h2 ih
    | none =>
      have e' : us[j]? = none := by
        rw [List.getElem?_eq_none_iff] at e ⊢
        rw [← r.length]
        exact e
      rw [List.filterMap_cons, List.filterMap_cons, e, e']
      exact ih
theorem filterMap_map {α β : Type} (g : α → β) (l : List α) : ∀ js : List Nat, (js.filterMap fun j => (l.map g)[j]?) = (js.filterMap fun j => l[j]?).map g
  | [] => rfl
  | j :: js => by
    rw [List.filterMap_cons, List.filterMap_cons, List.getElem?_map]
    cases e : l[j]? with
    | none => exact filterMap_map g l js
    | some v => rw [Option.map_some]; simp only; rw [filterMap_map g l js, List.map_cons]
theorem bind_dfl {dfl : List He.Dv} (F : FunD T.K x qual params body scope (dfl.map (He.Dv.v T.K)) [] f fd) (js : List Nat) (hd : dfl ≠ []) (hr : dvBs T.K (js.filterMap fun j => dfl[j]?) (dfls as) = true)
    (h : ∀ (t : Addr) (kV doc pm : Value) (an : Option Addr) (cdv ct : Value) (us ws its us' : List Value), us.length = n → ws.length = ks.length → its.length = dfl.length → pickG (us ++ ws) as (js.filterMap fun j => its[j]?) = some us' →
      ∃ k, bindArgs (PySem.W.fnOf x qual params body scope (.ref t) kV doc pm an cdv ct) ⟨us, ks.zip ws⟩ = seqItems? (.ref t) >>= k ∧ k (some its.toArray) = pure (ps.zip us')) : BindP T fd ps n ks as := by
  obtain ⟨oc, od, dV, kV, doc, pm, an, cdv, ct, osl, rfl, lk, hcd, hD, hK⟩ := F.ex
  rcases hD with ⟨e, _⟩ | ⟨_, t, o, its, m, rfl, lT, oT, rT⟩
  · exact absurd (List.map_eq_nil_iff.mp e) hd
  · refine ⟨js.filterMap fun j => its[j]?, _, vals_pick rT js, fun ω => ?_, fun s us ws us' inS h1 h2 h3 => ?_⟩
    · rw [filterMap_map]
      exact dvs_ok hr
    · obtain ⟨k, e1, e2⟩ := h t kV doc pm an cdv ct us ws its us' h1 h2 (by rw [← rT.length, List.length_map]) h3
      refine BindsTo.of_looks fun M => ?_
      rw [e1]
      exact looks_items inS lT oT (.of_pure e2)
end
theorem emp_of {p : Pd} {K : PySem.W.Frag} (h : p.ex K = true) (i : Nat) {f : PySem.W.Frag → Addr} (e : p.emp[i]? = some f) : tup0 K (f K) = true := by
  simp only [Pd.ex, Bool.and_eq_true] at h
  exact List.all_eq_true.mp h.2 f (List.mem_of_getElem? e)
theorem binds_of {p : Pd} {K : PySem.W.Frag} {w : World} (ok : p.ok = true) (h : ∀ b ∈ p.U.binds, ∃ e ∈ p.tab, e.i = b.1 ∧ ∀ fd, e.d.Is K fd → BindP (p.tx K w) fd e.ps b.2.1 b.2.2.1 b.2.2.2) : p.Binds K w := fun b hb e he hi fd F => by
  obtain ⟨e', he', hi', q⟩ := h b hb
  have ok := ok
  simp only [Pd.ok, Bool.and_eq_true, decide_eq_true_eq] at ok
  have nd := ok.1.1.1.1.1.1.1.1
  have h1 := find_nodup nd he
  have h2 := find_nodup nd he'
  rw [hi] at h1
  rw [hi'] at h2
  rw [h1] at h2
  cases h2
  exact q fd F
/-- the law holds where its core gives True -/
theorem walk_l {l : PySem.W.OpenLaw} {n k hn0 : Nat} {q : Program} {loose : List Str} {XP : (Str → Option Value) → Heap → Prop} {d : DefRec} {x : Str} {p : Pd} {e : DE} (hn : l.most = some n) (hn2 : n ≤ sizeLine) (hdf : d.params.defaults = []) (room : Room (4 * k) callerA)
    (ok : p.ok = true) (bo : ∀ (K : PySem.W.Frag) (w : World), p.ex K = true → p.Binds K w) (he : e ∈ p.tab) (hgl : p.U.glob.lookup d.name = some (.fn e.i)) (hnm : e.d.at_ = .glo d.name) (hps : e.ps = [x]) (hnp : e.fn.np = 1)
    (binds : ∀ {K : PySem.W.Frag} {fd : FuncData}, e.d.Is K fd → ∀ (s : Shared) (u : Value), BindsTo s fd ⟨[u], []⟩ [(x, u)])
    (want : ∀ ns : List Int, ns.length ≤ n → ∃ M, callN p.prg k e.i [.lst (ns.map .int)] [] = .ok (.bl true) M) :
    PySem.W.WalkO q loose XP (hookL hn0 p.ex (p.tab.map (·.d))).says l.row.toRowW d [] (fun f vs => PySem.call f vs) := by
  refine walk_g (k := 4 * k) (x := x) hn hn2 hdf room fun w mg fa h Y G hmg => ?_
  obtain ⟨K, inK, c⟩ := Y
  have is : ∀ e ∈ p.tab, ∃ fd, e.d.Is K fd := fun e he => look_def c (List.mem_map_of_mem he)
  have S : p.Seen K w mg h := ⟨ok, inK, G, look_ex c, is, bo K w (look_ex c)⟩
  obtain ⟨fd, F⟩ := is e he
  have hfa : fa = e.d.at_.of K := by
    have z : (He.Fa.glo d.name).ok K = true := by
      refine S.fa ?_
      unfold Pd.fas
      simp only [List.mem_append, List.mem_map]
      exact .inl (.inl (.inl (.inl ⟨_, PySem.mem_of_lookup hgl, rfl⟩)))
    have z := He.glo_ok inK G z
    rw [hmg] at z
    rw [hnm]
    exact Value.ref.inj (Option.some.inj z)
  subst hfa
  refine ⟨K, fd, spF p.prg (p.tx K w) k e.i 1, inK, fun s u => binds F s u, fun H a ns hl _ sq => ?_, fun base inB nb => ?_⟩
  · obtain ⟨M, hM⟩ := want ns hl
    refine ⟨rfl, ⟨H, []⟩, [.lst (ns.map .int)], [], .cons (.lst sq ?_) .nil, ⟨Same.refl _, rfl, nofun, nofun⟩, ?_⟩
    · clear hM hl sq
      induction ns with
      | nil => exact .nil
      | cons i ns ih => exact .cons (.int i) ih
    · rw [hM]
      intro ω' H' v _ _ r
      cases r
      rfl
  · have := (show p.Deep l.prog w K mg base k from Pd.Seen.deep (h := base) ⟨ok, inB, nb, look_ex c, is, bo K w (look_ex c)⟩ k) e he fd F
    rw [hps, hnp] at this
    exact this
end Lc
end

section
set_option autoImplicit false
set_option linter.all false
set_option Elab.async false
set_option maxRecDepth 100000
/-! Pg: the core of the program's defs. Printed by gen2.py. -/
namespace Lc
open PySem hiding isTrue
-- 0
def Nc_BadSystem___init__ : List Str := ["self", "part", "index"]
def c_BadSystem___init__ : List CS :=
  [.asg (.fld (.slot 0) "part") (.slot 1),
    .asg (.fld (.slot 0) "index") (.slot 2)]
def Fc_BadSystem___init__ : Fn := ⟨3, 3, c_BadSystem___init__⟩
-- 1
def Nc_BadText___init__ : List Str := ["self", "index"]
def c_BadText___init__ : List CS :=
  [.asg (.fld (.slot 0) "index") (.slot 1)]
def Fc_BadText___init__ : Fn := ⟨2, 2, c_BadText___init__⟩
-- 2
def Nc_NotPossible___init__ : List Str := ["self", "step"]
def c_NotPossible___init__ : List CS :=
  [.asg (.fld (.slot 0) "step") (.slot 1)]
def Fc_NotPossible___init__ : Fn := ⟨2, 2, c_NotPossible___init__⟩
-- 3
def Nc_Reached___init__ : List Str := ["self", "counts"]
def c_Reached___init__ : List CS :=
  [.asg (.fld (.slot 0) "counts") (.slot 1)]
def Fc_Reached___init__ : Fn := ⟨2, 2, c_Reached___init__⟩
-- 4
def Nc_TooMany___init__ : List Str := ["self", "limit"]
def c_TooMany___init__ : List CS :=
  [.asg (.fld (.slot 0) "limit") (.slot 1)]
def Fc_TooMany___init__ : Fn := ⟨2, 2, c_TooMany___init__⟩
-- 5
def Nc_BadCommand___init__ : List Str := ["self", "command"]
def c_BadCommand___init__ : List CS :=
  [.asg (.fld (.slot 0) "command") (.slot 1)]
def Fc_BadCommand___init__ : Fn := ⟨2, 2, c_BadCommand___init__⟩
-- 6
def Nc_is_integer : List Str := ["value", "least", "most"]
def c_is_integer : List CS :=
  [.ret (.conj [.isi (.slot 0) [.int], .not (.isi (.slot 0) [.bool]), .cmp2 .le .le (.slot 1) (.slot 0) (.slot 2)])]
def Fc_is_integer : Fn := ⟨3, 3, c_is_integer⟩
-- 7
def Nc_is_listing : List Str := ["value", "least", "most"]
def c_is_listing : List CS :=
  [.ret (.conj [.isi (.slot 0) [.list, .tuple], .cmp2 .le .le (.slot 1) (.bf .len false [.slot 0]) (.slot 2)])]
def Fc_is_listing : Fn := ⟨3, 3, c_is_listing⟩
-- 9
def Nc_counted : List Str := ["many", "word"]
def c_counted : List CS :=
  [.ret (.ite (.cmp .eq (.slot 0) (.lit (.int 1))) (.fmt [.slot 0, .lit (.str " "), .slot 1]) (.fmt [.slot 0, .lit (.str " "), .slot 1, .lit (.str "s")]))]
def Fc_counted : Fn := ⟨2, 2, c_counted⟩
-- 12
def Nc_System_programs : List Str := ["self"]
def c_System_programs : List CS :=
  [.ret (.fld (.slot 0) "bodies")]
def Fc_System_programs : Fn := ⟨1, 1, c_System_programs⟩
-- 13
def Nc_System_locks : List Str := ["self"]
def c_System_locks : List CS :=
  [.ret (.sub (.fld (.slot 0) "sizes") (.lit (.int 0)))]
def Fc_System_locks : Fn := ⟨1, 1, c_System_locks⟩
-- 14
def Nc_System_tops : List Str := ["self"]
def c_System_tops : List CS :=
  [.ret (.sub (.fld (.slot 0) "sizes") (.lit (.int 1)))]
def Fc_System_tops : Fn := ⟨1, 1, c_System_tops⟩
-- 16
def Nc_System___getitem__ : List Str := ["self", "at", "program", "position"]
def c_System___getitem__ : List CS :=
  [.asg (.pat (.t [.v 2, .v 3])) (.slot 1),
    .ret (.sub (.sub (.fld (.slot 0) "bodies") (.slot 2)) (.slot 3))]
def Fc_System___getitem__ : Fn := ⟨2, 4, c_System___getitem__⟩
-- 17
def Nc_System___len__ : List Str := ["self"]
def c_System___len__ : List CS :=
  [.ret (.bf .len false [.fld (.slot 0) "bodies"])]
def Fc_System___len__ : Fn := ⟨1, 1, c_System___len__⟩
-- 18
def Nc_System___eq__ : List Str := ["self", "other"]
def c_System___eq__ : List CS :=
  [.ret (.conj [.isi (.slot 1) [.own 9], .cmp .eq (.fld (.slot 0) "bodies") (.fld (.slot 1) "bodies"), .cmp .eq (.fld (.slot 0) "sizes") (.fld (.slot 1) "sizes")])]
def Fc_System___eq__ : Fn := ⟨2, 2, c_System___eq__⟩
-- 19
def Nc_System___repr__ : List Str := ["self"]
def c_System___repr__ : List CS :=
  [.ret (.fmt [.lit (.str "System("), .call 9 [.bf .len false [.fld (.slot 0) "bodies"], .lit (.str "program")] [] [.inl 0, .inl 1], .lit (.str ")")])]
def Fc_System___repr__ : Fn := ⟨1, 1, c_System___repr__⟩
-- 20
abbrev c_assembled_c0 : CE := .comp false [.mk (.v 4) (.slot 0) []] [4] (.bf .tuple false [.slot 4])
def Nc_assembled : List Str := ["programs", "locks", "tops", "made", "program"]
def c_assembled : List CS :=
  [.asg (.pat (.v 3)) (.mk false 9 [.lst false [.lst false [.tup [.lit (.str "end")]]]] [.slot 1, .slot 2] [.inl 0, .inl 1, .inl 2, .inl 3]),
    .asg (.fld (.slot 3) "bodies") (.bf .tuple false [c_assembled_c0]),
    .ret (.slot 3)]
def Fc_assembled : Fn := ⟨3, 5, c_assembled⟩
-- 21
abbrev c_positions_c0 : CE := .comp false [.mk (.t [.v 5, .v 6]) (.enum (.slot 4)) [.cmp .eq (.sub (.slot 6) (.lit (.int 0))) (.slot 1)]] [5, 6] (.tup [.slot 3, .slot 5])
abbrev c_positions_l1 : CS := .loop (.t [.v 3, .v 4]) (.enum (.prop (.slot 0) "programs")) [.exp (.bm .extend true (.slot 2) [c_positions_c0])]
def Nc_positions : List Str := ["system", "word", "found", "at", "program", "position", "instruction"]
def c_positions : List CS :=
  [.asg (.pat (.v 2)) (.lst true []),
    c_positions_l1,
    .ret (.frz (.slot 2))]
def Fc_positions : Fn := ⟨2, 7, c_positions⟩
-- 22
def Nc_with_item : List Str := ["items", "item"]
def c_with_item : List CS :=
  [.ret (.bf .tuple false [.bf .sorted false [.lst false [.star (.slot 0), .slot 1]]])]
def Fc_with_item : Fn := ⟨2, 2, c_with_item⟩
-- 23
def Nc_without_item : List Str := ["items", "item", "index"]
def c_without_item : List CS :=
  [.asg (.pat (.v 2)) (.bm .index false (.slot 0) [.slot 1]),
    .ret (.tup [.star (.cut false (.slot 0) none (some (.slot 2))), .star (.cut false (.slot 0) (some (.bin .add false (.slot 2) (.lit (.int 1)))) none)])]
def Fc_without_item : Fn := ⟨2, 3, c_without_item⟩
-- 24
def Nc_replaced : List Str := ["items", "index", "item"]
def c_replaced : List CS :=
  [.ret (.tup [.star (.cut false (.slot 0) none (some (.slot 1))), .slot 2, .star (.cut false (.slot 0) (some (.bin .add false (.slot 1) (.lit (.int 1)))) none)])]
def Fc_replaced : Fn := ⟨3, 3, c_replaced⟩
-- 25
def Nc_lock_moves : List Str := ["instruction", "state", "locked", "values", "program", "position", "held", "writing", "lock"]
def c_lock_moves : List CS :=
  [.asg (.pat (.t [.v 4, .v 5, .v 6, .v 7])) (.slot 1),
    .asg (.pat (.v 8)) (.sub (.slot 0) (.lit (.int 1))),
    .ite (.cmp .notIn (.slot 8) (.slot 2)) [.ret (.lst false [.tup [.lit (.int 0), .tup [.slot 4, .bin .add false (.slot 5) (.lit (.int 1)), .call 22 [.slot 6, .slot 8] [] [.inl 0, .inl 1], .lit (.bl false)], .call 22 [.slot 2, .slot 8] [] [.inl 0, .inl 1], .slot 3]])] [],
    .ret (.ite (.cmp .eq (.sub (.slot 0) (.lit (.int 0))) (.lit (.str "try"))) (.lst false [.tup [.lit (.int 0), .tup [.slot 4, .sub (.slot 0) (.lit (.int 2)), .slot 6, .lit (.bl false)], .slot 2, .slot 3]]) (.lst false []))]
def Fc_lock_moves : Fn := ⟨4, 9, c_lock_moves⟩
-- 29
abbrev c_are_locked_c0 : CE := .comp false [.mk (.v 2) (.slot 0) []] [2] (.cmp .inn (.slot 2) (.slot 1))
def Nc_are_locked : List Str := ["held", "locked", "lock"]
def c_are_locked : List CS :=
  [.ret (.bf .all false [c_are_locked_c0])]
def Fc_are_locked : Fn := ⟨2, 3, c_are_locked⟩
-- 31
abbrev c_is_at_least_c0 : CE := .comp false [.mk (.t [.v 2, .v 3]) (.zip (.slot 0) (.slot 1)) []] [2, 3] (.cmp .ge (.slot 2) (.slot 3))
def Nc_is_at_least : List Str := ["one", "other", "mine", "yours"]
def c_is_at_least : List CS :=
  [.ret (.bf .all false [c_is_at_least_c0])]
def Fc_is_at_least : Fn := ⟨2, 4, c_is_at_least⟩
-- 32
abbrev c_least_of_c0 : CE := .comp false [.mk (.v 3) (.slot 1) []] [3] (.call 31 [.slot 2, .slot 3] [] [.inl 0, .inl 1])
abbrev c_least_of_l1 : CS := .loop (.v 2) (.bf .sorted false [.slot 0]) [.ite (.not (.bf .any false [c_least_of_c0])) [.exp (.bm .append true (.slot 1) [.slot 2])] []]
def Nc_least_of : List Str := ["tuples", "found", "one", "other"]
def c_least_of : List CS :=
  [.asg (.pat (.v 1)) (.lst true []),
    c_least_of_l1,
    .ret (.frz (.slot 1))]
def Fc_least_of : Fn := ⟨1, 4, c_least_of⟩
-- 33
def Nc_UpSet___init__ : List Str := ["self", "width", "corners"]
def c_UpSet___init__ : List CS :=
  [.asg (.fld (.slot 0) "places") (.slot 1),
    .asg (.fld (.slot 0) "least") (.call 32 [.slot 2] [] [.inl 0])]
def Fc_UpSet___init__ : Fn := ⟨3, 3, c_UpSet___init__⟩
-- 34
def Nc_UpSet_full : List Str := ["cls", "width"]
def c_UpSet_full : List CS :=
  [.ret (.mkL false 0 [.slot 1, .lst false [.bin .mul false (.tup [.lit (.int 0)]) (.slot 1)]] [.inl 0, .inl 1, .inl 2])]
def Fc_UpSet_full : Fn := ⟨2, 2, c_UpSet_full⟩
-- 35
def Nc_UpSet_width : List Str := ["self"]
def c_UpSet_width : List CS :=
  [.ret (.fld (.slot 0) "places")]
def Fc_UpSet_width : Fn := ⟨1, 1, c_UpSet_width⟩
-- 36
def Nc_UpSet_corners : List Str := ["self"]
def c_UpSet_corners : List CS :=
  [.ret (.bf .list true [.fld (.slot 0) "least"])]
def Fc_UpSet_corners : Fn := ⟨1, 1, c_UpSet_corners⟩
-- 37
abbrev c_UpSet_smallest_l0 : CS := .loop (.v 2) (.fld (.slot 0) "least") [.ite (.disj [.cmp .is (.slot 1) (.lit .non), .cmp .lt (.bf .sum false [.slot 2]) (.bf .sum false [.slot 1])]) [.asg (.pat (.v 1)) (.slot 2)] []]
def Nc_UpSet_smallest : List Str := ["self", "found", "one"]
def c_UpSet_smallest : List CS :=
  [.asg (.pat (.v 1)) (.lit .non),
    c_UpSet_smallest_l0,
    .ret (.slot 1)]
def Fc_UpSet_smallest : Fn := ⟨1, 3, c_UpSet_smallest⟩
-- 38
abbrev c_UpSet_within_c0 : CE := .comp false [.mk (.v 2) (.fld (.slot 0) "least") []] [2] (.cmp .inn (.slot 2) (.slot 1))
def Nc_UpSet_within : List Str := ["self", "other", "corner"]
def c_UpSet_within : List CS :=
  [.ret (.bf .all false [c_UpSet_within_c0])]
def Fc_UpSet_within : Fn := ⟨2, 3, c_UpSet_within⟩
-- 39
abbrev c_UpSet___contains___c0 : CE := .comp false [.mk (.v 2) (.fld (.slot 0) "least") []] [2] (.call 31 [.slot 1, .slot 2] [] [.inl 0, .inl 1])
def Nc_UpSet___contains__ : List Str := ["self", "counts", "corner"]
def c_UpSet___contains__ : List CS :=
  [.ret (.bf .any false [c_UpSet___contains___c0])]
def Fc_UpSet___contains__ : Fn := ⟨2, 3, c_UpSet___contains__⟩
-- 40
def Nc_UpSet___or__ : List Str := ["self", "other"]
def c_UpSet___or__ : List CS :=
  [.ret (.mk false 10 [.fld (.slot 0) "places", .bin .add false (.fld (.slot 0) "least") (.fld (.slot 1) "least")] [] [.inl 0, .inl 1, .inl 2])]
def Fc_UpSet___or__ : Fn := ⟨2, 2, c_UpSet___or__⟩
-- 41
abbrev c_UpSet___and___c0 : CE := .comp false [.mk (.v 3) (.fld (.slot 0) "least") [], .mk (.v 4) (.fld (.slot 1) "least") []] [3, 4] (.tup [.slot 3, .slot 4])
abbrev c_UpSet___and___c1 : CE := .comp false [.mk (.t [.v 5, .v 6]) (.zip (.slot 3) (.slot 4)) []] [5, 6] (.bf .max2 false [.slot 5, .slot 6])
abbrev c_UpSet___and___c2 : CE := .comp false [.mk (.t [.v 3, .v 4]) (.slot 2) []] [3, 4] (.bf .tuple false [c_UpSet___and___c1])
def Nc_UpSet___and__ : List Str := ["self", "other", "pairs", "one", "two", "a", "b"]
def c_UpSet___and__ : List CS :=
  [.asg (.pat (.v 2)) (c_UpSet___and___c0),
    .ret (.mk false 10 [.fld (.slot 0) "places", c_UpSet___and___c2] [] [.inl 0, .inl 1, .inl 2])]
def Fc_UpSet___and__ : Fn := ⟨2, 7, c_UpSet___and__⟩
-- 42
def Nc_UpSet___eq__ : List Str := ["self", "other"]
def c_UpSet___eq__ : List CS :=
  [.ret (.conj [.isi (.slot 1) [.own 10], .cmp .eq (.fld (.slot 0) "places") (.fld (.slot 1) "places"), .cmp .eq (.fld (.slot 0) "least") (.fld (.slot 1) "least")])]
def Fc_UpSet___eq__ : Fn := ⟨2, 2, c_UpSet___eq__⟩
-- 43
def Nc_UpSet___len__ : List Str := ["self"]
def c_UpSet___len__ : List CS :=
  [.ret (.bf .len false [.fld (.slot 0) "least"])]
def Fc_UpSet___len__ : Fn := ⟨1, 1, c_UpSet___len__⟩
-- 45
abbrev c_UpSet___str___c0 : CE := .comp false [.mk (.v 1) (.fld (.slot 0) "least") []] [1] (.bf .str false [.slot 1])
def Nc_UpSet___str__ : List Str := ["self", "corner"]
def c_UpSet___str__ : List CS :=
  [.ite (.cmp .eq (.fld (.slot 0) "least") (.lst false [])) [.ret (.lit (.str "empty"))] [],
    .ret (.bm .join false (.lit (.str " ")) [c_UpSet___str___c0])]
def Fc_UpSet___str__ : Fn := ⟨1, 2, c_UpSet___str__⟩
-- 46
def Nc_UpSet___repr__ : List Str := ["self"]
def c_UpSet___repr__ : List CS :=
  [.ret (.fmt [.lit (.str "UpSet("), .call 9 [.bf .len false [.fld (.slot 0) "least"], .lit (.str "corner")] [] [.inl 0, .inl 1], .lit (.str ")")])]
def Fc_UpSet___repr__ : Fn := ⟨1, 1, c_UpSet___repr__⟩
-- 47
def Nc_possible_states : List Str := ["system", "program"]
def c_possible_states : List CS :=
  [.ret (.call 30 [.slot 0, .slot 1] [] [.inl 0, .inl 1])]
def Fc_possible_states : Fn := ⟨2, 2, c_possible_states⟩
-- 49
def Nc_is_integer_conf : List Str := ["value"]
def c_is_integer_conf : List CS :=
  [.ret (.conj [.isi (.slot 0) [.int], .not (.isi (.slot 0) [.bool])])]
def Fc_is_integer_conf : Fn := ⟨1, 1, c_is_integer_conf⟩
-- 50
abbrev c_is_lock_tuple_c0 : CE := .comp false [.mk (.v 2) (.slot 1) []] [2] (.conj [.call 49 [.slot 2] [] [.inl 0], .cmp2 .le .lt (.lit (.int 0)) (.slot 2) (.prop (.slot 0) "locks")])
abbrev c_is_lock_tuple_c1 : CE := .comp false [.mk (.t [.v 3, .v 4]) (.zip (.slot 1) (.cut false (.slot 1) (some (.lit (.int 1))) none)) []] [3, 4] (.cmp .lt (.slot 3) (.slot 4))
def Nc_is_lock_tuple : List Str := ["system", "value", "lock", "one", "other"]
def c_is_lock_tuple : List CS :=
  [.ite (.disj [.not (.isi (.slot 1) [.tuple]), .not (.bf .all false [c_is_lock_tuple_c0])]) [.ret (.lit (.bl false))] [],
    .ret (.bf .all false [c_is_lock_tuple_c1])]
def Fc_is_lock_tuple : Fn := ⟨2, 5, c_is_lock_tuple⟩
-- 52
def Nc_is_state : List Str := ["system", "known", "value"]
def c_is_state : List CS :=
  [.ite (.disj [.not (.isi (.slot 2) [.tuple]), .cmp .ne (.bf .len false [.slot 2]) (.lit (.int 4)), .not (.call 49 [.sub (.slot 2) (.lit (.int 0))] [] [.inl 0]), .not (.call 49 [.sub (.slot 2) (.lit (.int 1))] [] [.inl 0])]) [.ret (.lit (.bl false))] [],
    .ret (.conj [.call 50 [.slot 0, .sub (.slot 2) (.lit (.int 2))] [] [.inl 0, .inl 1], .isi (.sub (.slot 2) (.lit (.int 3))) [.bool], .cmp .inn (.slot 2) (.slot 1)])]
def Fc_is_state : Fn := ⟨3, 3, c_is_state⟩
-- 53
abbrev c_held_by_c0 : CE := .comp false [.mk (.v 1) (.slot 0) [], .mk (.v 2) (.sub (.slot 1) (.lit (.int 2))) []] [1, 2] (.slot 2)
def Nc_held_by : List Str := ["threads", "thread", "lock"]
def c_held_by : List CS :=
  [.ret (c_held_by_c0)]
def Fc_held_by : Fn := ⟨1, 3, c_held_by⟩
-- 55
def Nc_is_known_configuration : List Str := ["system", "known", "value"]
def c_is_known_configuration : List CS :=
  [.ite (.disj [.not (.isi (.slot 2) [.tuple]), .cmp .ne (.bf .len false [.slot 2]) (.lit (.int 3))]) [.ret (.lit (.bl false))] [],
    .ite (.disj [.not (.call 50 [.slot 0, .sub (.slot 2) (.lit (.int 0))] [] [.inl 0, .inl 1]), .not (.call 51 [.slot 0, .sub (.slot 2) (.lit (.int 1))] [] [.inl 0, .inl 1])]) [.ret (.lit (.bl false))] [],
    .ret (.conj [.call 54 [.slot 0, .slot 1, .sub (.slot 2) (.lit (.int 2))] [] [.inl 0, .inl 1, .inl 2], .call 29 [.call 53 [.sub (.slot 2) (.lit (.int 2))] [] [.inl 0], .sub (.slot 2) (.lit (.int 0))] [] [.inl 0, .inl 1]])]
def Fc_is_known_configuration : Fn := ⟨3, 3, c_is_known_configuration⟩
-- 56
def Nc_is_configuration : List Str := ["system", "value"]
def c_is_configuration : List CS :=
  [.ret (.call 55 [.slot 0, .call 48 [.slot 0] [] [.inl 0], .slot 1] [] [.inl 0, .inl 1, .inl 2])]
def Fc_is_configuration : Fn := ⟨2, 2, c_is_configuration⟩
-- 57
def Nc_is_pattern : List Str := ["system", "value", "locked", "values", "threads"]
def c_is_pattern : List CS :=
  [.ite (.disj [.not (.isi (.slot 1) [.tuple]), .cmp .ne (.bf .len false [.slot 1]) (.lit (.int 3))]) [.ret (.lit (.bl false))] [],
    .asg (.pat (.t [.v 2, .v 3, .v 4])) (.slot 1),
    .ite (.conj [.cmp .isNot (.slot 2) (.lit .non), .not (.call 50 [.slot 0, .slot 2] [] [.inl 0, .inl 1])]) [.ret (.lit (.bl false))] [],
    .ite (.conj [.cmp .isNot (.slot 3) (.lit .non), .not (.call 51 [.slot 0, .slot 3] [] [.inl 0, .inl 1])]) [.ret (.lit (.bl false))] [],
    .ite (.not (.call 54 [.slot 0, .call 48 [.slot 0] [] [.inl 0], .slot 4] [] [.inl 0, .inl 1, .inl 2])) [.ret (.lit (.bl false))] [],
    .ret (.disj [.cmp .is (.slot 2) (.lit .non), .call 29 [.call 53 [.slot 4] [] [.inl 0], .slot 2] [] [.inl 0, .inl 1]])]
def Fc_is_pattern : Fn := ⟨2, 5, c_is_pattern⟩
-- 58
abbrev c_initial_c0 : CE := .comp false [.mk (.t [.v 3, .v 4]) (.enum (.slot 1)) [], .mk (.v 5) (.rng [.slot 4]) []] [3, 4, 5] (.tup [.slot 3, .lit (.int 0), .tup [], .lit (.bl false)])
def Nc_initial : List Str := ["system", "counts", "threads", "program", "many", "turn"]
def c_initial : List CS :=
  [.asg (.pat (.v 2)) (c_initial_c0),
    .ret (.tup [.tup [], .bin .mul false (.tup [.lit (.int 0)]) (.bf .len false [.prop (.slot 0) "tops"]), .bf .tuple false [.slot 2]])]
def Fc_initial : Fn := ⟨2, 6, c_initial⟩
-- 59
abbrev c_are_among_w0 : CS := .whl (.conj [.cmp .lt (.slot 2) (.bf .len false [.slot 1]), .cmp .lt (.sub (.slot 1) (.slot 2)) (.slot 3)]) [.aug 2 .add (.lit (.int 1))]
abbrev c_are_among_l1 : CS := .loop (.v 3) (.slot 0) [c_are_among_w0,
    .ite (.disj [.cmp .eq (.slot 2) (.bf .len false [.slot 1]), .cmp .ne (.sub (.slot 1) (.slot 2)) (.slot 3)]) [.ret (.lit (.bl false))] [],
    .aug 2 .add (.lit (.int 1))]
def Nc_are_among : List Str := ["some", "threads", "index", "state"]
def c_are_among : List CS :=
  [.asg (.pat (.v 2)) (.lit (.int 0)),
    c_are_among_l1,
    .ret (.lit (.bl true))]
def Fc_are_among : Fn := ⟨2, 4, c_are_among⟩
-- 60
def Nc_is_within : List Str := ["one", "other"]
def c_is_within : List CS :=
  [.ret (.conj [.cmp .eq (.cut false (.slot 0) none (some (.lit (.int 2)))) (.cut false (.slot 1) none (some (.lit (.int 2)))), .call 59 [.sub (.slot 0) (.lit (.int 2)), .sub (.slot 1) (.lit (.int 2))] [] [.inl 0, .inl 1]])]
def Fc_is_within : Fn := ⟨2, 2, c_is_within⟩
-- 61
def Nc_matches : List Str := ["configuration", "pattern"]
def c_matches : List CS :=
  [.ite (.conj [.cmp .isNot (.sub (.slot 1) (.lit (.int 0))) (.lit .non), .cmp .ne (.sub (.slot 1) (.lit (.int 0))) (.sub (.slot 0) (.lit (.int 0)))]) [.ret (.lit (.bl false))] [],
    .ite (.conj [.cmp .isNot (.sub (.slot 1) (.lit (.int 1))) (.lit .non), .cmp .ne (.sub (.slot 1) (.lit (.int 1))) (.sub (.slot 0) (.lit (.int 1)))]) [.ret (.lit (.bl false))] [],
    .ret (.call 59 [.sub (.slot 1) (.lit (.int 2)), .sub (.slot 0) (.lit (.int 2))] [] [.inl 0, .inl 1])]
def Fc_matches : Fn := ⟨2, 2, c_matches⟩
-- 63
def Nc_Moment___init__ : List Str := ["self", "threads", "locked", "values", "born"]
def c_Moment___init__ : List CS :=
  [.asg (.fld (.slot 0) "threads") (.slot 1),
    .asg (.fld (.slot 0) "locked") (.slot 2),
    .asg (.fld (.slot 0) "cells") (.slot 3),
    .asg (.fld (.slot 0) "born") (.slot 4)]
def Fc_Moment___init__ : Fn := ⟨5, 5, c_Moment___init__⟩
-- 64
def Nc_Moment_moves : List Str := ["self", "system", "thread"]
def c_Moment_moves : List CS :=
  [.ret (.call 27 [.slot 1, .sub (.fld (.slot 0) "threads") (.slot 2), .fld (.slot 0) "locked", .fld (.slot 0) "cells"] [] [.inl 0, .inl 1, .inl 2, .inl 3])]
def Fc_Moment_moves : Fn := ⟨3, 3, c_Moment_moves⟩
-- 65
abbrev c_Moment_after_l0 : CS := .loop (.t [.v 6, .v 7, .v 8, .v 9]) (.meth "moves" (.slot 0) [.slot 1, .slot 3] [] [.inl 0, .inl 1, .inl 2]) [.ite (.cmp .eq (.slot 6) (.slot 4)) [.asg (.pat (.v 10)) (.tup [.star (.cut false (.fld (.slot 0) "threads") none (some (.slot 3))), .slot 7, .star (.cut false (.fld (.slot 0) "threads") (some (.bin .add false (.slot 3) (.lit (.int 1)))) none)]),
    .ret (.mk false 11 [.slot 10, .slot 8, .slot 9, .tup [.star (.fld (.slot 0) "born"), .star (.meth "children_of" (.slot 0) [.slot 1, .slot 5] [] [.inl 0, .inl 1, .inl 2])]] [] [.inl 0, .inl 1, .inl 2, .inl 3, .inl 4])] []]
def Nc_Moment_after : List Str := ["self", "system", "step", "thread", "way", "state", "other_way", "later", "locked", "values", "threads"]
def c_Moment_after : List CS :=
  [.ite (.disj [.not (.isi (.slot 2) [.tuple]), .cmp .ne (.bf .len false [.slot 2]) (.lit (.int 2)), .not (.call 6 [.sub (.slot 2) (.lit (.int 0)), .lit (.int 0), .bin .sub false (.bf .len false [.fld (.slot 0) "threads"]) (.lit (.int 1))] [] [.inl 0, .inl 1, .inl 2])]) [.ret (.lit .non)] [],
    .asg (.pat (.t [.v 3, .v 4])) (.slot 2),
    .ite (.not (.call 6 [.slot 4, .lit (.int 0), .lit (.int 1)] [] [.inl 0, .inl 1, .inl 2])) [.ret (.lit .non)] [],
    .asg (.pat (.v 5)) (.sub (.fld (.slot 0) "threads") (.slot 3)),
    c_Moment_after_l0,
    .ret (.lit .non)]
def Fc_Moment_after : Fn := ⟨3, 11, c_Moment_after⟩
-- 66
def Nc_Moment_children_of : List Str := ["self", "system", "state", "instruction"]
def c_Moment_children_of : List CS :=
  [.asg (.pat (.v 3)) (.sub (.slot 1) (.tup [.sub (.slot 2) (.lit (.int 0)), .sub (.slot 2) (.lit (.int 1))])),
    .ite (.cmp .ne (.sub (.slot 3) (.lit (.int 0))) (.lit (.str "fork"))) [.ret (.lst false [])] [],
    .ret (.lst false [.tup [.fld (.slot 0) "locked", .fld (.slot 0) "cells", .tup [.sub (.slot 2) (.lit (.int 0)), .sub (.slot 3) (.lit (.int 1)), .sub (.slot 2) (.lit (.int 2)), .lit (.bl false)]]])]
def Fc_Moment_children_of : Fn := ⟨3, 4, c_Moment_children_of⟩
-- 67
def Nc_Level___init__ : List Str := ["self", "outer", "moment", "past"]
def c_Level___init__ : List CS :=
  [.asg (.fld (.slot 0) "outer") (.slot 1),
    .asg (.fld (.slot 0) "moment") (.slot 2),
    .asg (.fld (.slot 0) "past") (.slot 3)]
def Fc_Level___init__ : Fn := ⟨4, 4, c_Level___init__⟩
-- 68
def Nc_Trial___init__ : List Str := ["self", "target"]
def c_Trial___init__ : List CS :=
  [.asg (.fld (.slot 0) "target") (.slot 1),
    .asg (.fld (.slot 0) "level") (.lit .non)]
def Fc_Trial___init__ : Fn := ⟨2, 2, c_Trial___init__⟩
-- 69
def Nc_Trial___enter__ : List Str := ["self"]
def c_Trial___enter__ : List CS :=
  [.asg (.fld (.slot 0) "level") (.mk false 12 [.fld (.slot 0) "level", .fld (.fld (.slot 0) "target") "moment", .bf .list false [.fld (.fld (.slot 0) "target") "past"]] [] [.inl 0, .inl 1, .inl 2, .inl 3]),
    .ret (.slot 0)]
def Fc_Trial___enter__ : Fn := ⟨1, 1, c_Trial___enter__⟩
-- 70
def Nc_Trial___exit__ : List Str := ["self", "kind", "value", "trace"]
def c_Trial___exit__ : List CS :=
  [.asg (.fld (.fld (.slot 0) "target") "moment") (.fld (.fld (.slot 0) "level") "moment"),
    .asg (.fld (.fld (.slot 0) "target") "past") (.fld (.fld (.slot 0) "level") "past"),
    .asg (.fld (.slot 0) "level") (.fld (.fld (.slot 0) "level") "outer")]
def Fc_Trial___exit__ : Fn := ⟨4, 4, c_Trial___exit__⟩
-- 71
abbrev c_Run___init___c0 : CE := .comp false [.mk (.t [.v 4, .v 5]) (.enum (.slot 2)) [], .mk (.v 6) (.rng [.slot 5]) []] [4, 5, 6] (.tup [.slot 4, .lit (.int 0), .tup [], .lit (.bl false)])
def Nc_Run___init__ : List Str := ["self", "system", "counts", "threads", "program", "many", "turn"]
def c_Run___init__ : List CS :=
  [.asg (.fld (.slot 0) "owner") (.slot 1),
    .asg (.fld (.slot 0) "numbers") (.bf .tuple false [.slot 2]),
    .asg (.pat (.v 3)) (c_Run___init___c0),
    .asg (.fld (.slot 0) "moment") (.mk false 11 [.bf .tuple false [.slot 3], .tup [], .bin .mul false (.tup [.lit (.int 0)]) (.bf .len false [.prop (.slot 1) "tops"])] [] [.inl 0, .inl 1, .inl 2, .inl 3, .inr (.tup [])]),
    .asg (.fld (.slot 0) "past") (.lst false [])]
def Fc_Run___init__ : Fn := ⟨3, 7, c_Run___init__⟩
-- 72
def Nc_Run_possible : List Str := ["self", "step"]
def c_Run_possible : List CS :=
  [.ret (.cmp .isNot (.meth "after" (.fld (.slot 0) "moment") [.fld (.slot 0) "owner", .slot 1] [] [.inl 0, .inl 1, .inl 2]) (.lit .non))]
def Fc_Run_possible : Fn := ⟨2, 2, c_Run_possible⟩
-- 74
abbrev c_Run_steps_c0 : CE := .comp false [.mk (.v 3) (.meth "moves" (.fld (.slot 0) "moment") [.fld (.slot 0) "owner", .slot 2] [] [.inl 0, .inl 1, .inl 2]) []] [3] (.tup [.slot 2, .sub (.slot 3) (.lit (.int 0))])
abbrev c_Run_steps_l1 : CS := .loop (.v 2) (.rng [.bf .len false [.fld (.fld (.slot 0) "moment") "threads"]]) [.exp (.bm .extend true (.slot 1) [c_Run_steps_c0])]
def Nc_Run_steps : List Str := ["self", "found", "thread", "move"]
def c_Run_steps : List CS :=
  [.asg (.pat (.v 1)) (.lst true []),
    c_Run_steps_l1,
    .ret (.bf .sorted false [.slot 1])]
def Fc_Run_steps : Fn := ⟨1, 4, c_Run_steps⟩
-- 75
def Nc_Run_states : List Str := ["self"]
def c_Run_states : List CS :=
  [.ret (.bf .list false [.fld (.fld (.slot 0) "moment") "threads"])]
def Fc_Run_states : Fn := ⟨1, 1, c_Run_states⟩
-- 76
def Nc_Run_shared : List Str := ["self"]
def c_Run_shared : List CS :=
  [.ret (.tup [.fld (.fld (.slot 0) "moment") "locked", .fld (.fld (.slot 0) "moment") "cells"])]
def Fc_Run_shared : Fn := ⟨1, 1, c_Run_shared⟩
-- 77
def Nc_Run_configuration : List Str := ["self"]
def c_Run_configuration : List CS :=
  [.ret (.tup [.fld (.fld (.slot 0) "moment") "locked", .fld (.fld (.slot 0) "moment") "cells", .bf .tuple false [.bf .sorted false [.fld (.fld (.slot 0) "moment") "threads"]]])]
def Fc_Run_configuration : Fn := ⟨1, 1, c_Run_configuration⟩
-- 78
def Nc_Run_children : List Str := ["self"]
def c_Run_children : List CS :=
  [.ret (.bf .list false [.fld (.fld (.slot 0) "moment") "born"])]
def Fc_Run_children : Fn := ⟨1, 1, c_Run_children⟩
-- 79
abbrev c_Run_history_c0 : CE := .comp false [.mk (.t [.v 1, .v 2]) (.fld (.slot 0) "past") []] [1, 2] (.slot 1)
def Nc_Run_history : List Str := ["self", "step", "before"]
def c_Run_history : List CS :=
  [.ret (c_Run_history_c0)]
def Fc_Run_history : Fn := ⟨1, 3, c_Run_history⟩
-- 81
def Nc_Run_copy : List Str := ["self", "other"]
def c_Run_copy : List CS :=
  [.asg (.pat (.v 1)) (.mk false 14 [.fld (.slot 0) "owner", .fld (.slot 0) "numbers"] [] [.inl 0, .inl 1, .inl 2]),
    .asg (.fld (.slot 1) "moment") (.fld (.slot 0) "moment"),
    .asg (.fld (.slot 1) "past") (.bf .list false [.fld (.slot 0) "past"]),
    .ret (.slot 1)]
def Fc_Run_copy : Fn := ⟨1, 2, c_Run_copy⟩
-- 82
def Nc_Run_trial : List Str := ["self"]
def c_Run_trial : List CS :=
  [.ret (.mk false 13 [.slot 0] [] [.inl 0, .inl 1])]
def Fc_Run_trial : Fn := ⟨1, 1, c_Run_trial⟩
-- 84
def Nc_Run___len__ : List Str := ["self"]
def c_Run___len__ : List CS :=
  [.ret (.bf .len false [.fld (.slot 0) "past"])]
def Fc_Run___len__ : Fn := ⟨1, 1, c_Run___len__⟩
-- 85
abbrev c_Run___eq___c0 : CE := .comp false [.mk (.t [.v 2, .v 3]) (.fld (.slot 0) "past") []] [2, 3] (.slot 2)
abbrev c_Run___eq___c1 : CE := .comp false [.mk (.t [.v 2, .v 3]) (.fld (.slot 1) "past") []] [2, 3] (.slot 2)
def Nc_Run___eq__ : List Str := ["self", "other", "step", "before"]
def c_Run___eq__ : List CS :=
  [.ite (.disj [.not (.isi (.slot 1) [.own 14]), .cmp .ne (.fld (.slot 0) "owner") (.fld (.slot 1) "owner"), .cmp .ne (.fld (.slot 0) "numbers") (.fld (.slot 1) "numbers")]) [.ret (.lit (.bl false))] [],
    .ret (.cmp .eq (c_Run___eq___c0) (c_Run___eq___c1))]
def Fc_Run___eq__ : Fn := ⟨2, 4, c_Run___eq__⟩
-- 86
def Nc_Run___repr__ : List Str := ["self"]
def c_Run___repr__ : List CS :=
  [.ret (.fmt [.lit (.str "Run("), .call 9 [.bf .len false [.fld (.slot 0) "past"], .lit (.str "step")] [] [.inl 0, .inl 1], .lit (.str ")")])]
def Fc_Run___repr__ : Fn := ⟨1, 1, c_Run___repr__⟩
-- 87
def Nc_stuck_at : List Str := ["system", "child", "locked", "values", "state", "program", "position", "held", "writing", "instruction"]
def c_stuck_at : List CS :=
  [.asg (.pat (.t [.v 2, .v 3, .v 4])) (.slot 1),
    .asg (.pat (.t [.v 5, .v 6, .v 7, .v 8])) (.slot 4),
    .asg (.pat (.v 9)) (.sub (.slot 0) (.tup [.slot 5, .slot 6])),
    .ite (.conj [.cmp .eq (.sub (.slot 9) (.lit (.int 0))) (.lit (.str "acquire")), .cmp .inn (.sub (.slot 9) (.lit (.int 1))) (.slot 2)]) [.ret (.tup [.slot 6, .ite (.cmp .inn (.sub (.slot 9) (.lit (.int 1))) (.slot 7)) (.lit (.str "self")) (.lit (.str "orphan")), .sub (.slot 9) (.lit (.int 1))])] [],
    .ite (.conj [.cmp .eq (.sub (.slot 9) (.lit (.int 0))) (.lit (.str "test")), .cmp .eq (.sub (.slot 3) (.sub (.slot 9) (.lit (.int 1)))) (.neg (.lit (.int 1)))]) [.ret (.tup [.slot 6, .lit (.str "half"), .sub (.slot 9) (.lit (.int 1))])] [],
    .ret (.lit .non)]
def Fc_stuck_at : Fn := ⟨2, 10, c_stuck_at⟩
-- 88
abbrev c_child_moves_c0 : CE := .comp true [.mk (.t [.v 6, .v 7, .v 8, .v 9]) (.call 27 [.slot 0, .slot 4, .slot 2, .slot 3] [] [.inl 0, .inl 1, .inl 2, .inl 3]) []] [6, 7, 8, 9] (.tup [.slot 6, .tup [.slot 8, .slot 9, .slot 7], .lit (.int 0)])
def Nc_child_moves : List Str := ["system", "child", "locked", "values", "state", "found", "way", "later", "later_locked", "later_values", "instruction"]
def c_child_moves : List CS :=
  [.asg (.pat (.t [.v 2, .v 3, .v 4])) (.slot 1),
    .asg (.pat (.v 5)) (c_child_moves_c0),
    .asg (.pat (.v 10)) (.sub (.slot 0) (.tup [.sub (.slot 4) (.lit (.int 0)), .sub (.slot 4) (.lit (.int 1))])),
    .ite (.cmp .eq (.sub (.slot 10) (.lit (.int 0))) (.lit (.str "fork"))) [.exp (.bm .append true (.slot 5) [.tup [.lit (.int 1), .tup [.slot 2, .slot 3, .tup [.sub (.slot 4) (.lit (.int 0)), .sub (.slot 10) (.lit (.int 1)), .sub (.slot 4) (.lit (.int 2)), .lit (.bl false)]], .lit (.int 1)]])] [],
    .ret (.frz (.slot 5))]
def Fc_child_moves : Fn := ⟨2, 11, c_child_moves⟩
-- 89
def Nc_ChildRun___init__ : List Str := ["self", "system", "child"]
def c_ChildRun___init__ : List CS :=
  [.asg (.fld (.slot 0) "owner") (.slot 1),
    .asg (.fld (.slot 0) "process") (.slot 2),
    .asg (.fld (.slot 0) "depth") (.lit (.int 1)),
    .asg (.fld (.slot 0) "past") (.lst false [])]
def Fc_ChildRun___init__ : Fn := ⟨3, 3, c_ChildRun___init__⟩
-- 90
def Nc_ChildRun_generation : List Str := ["self"]
def c_ChildRun_generation : List CS :=
  [.ret (.fld (.slot 0) "depth")]
def Fc_ChildRun_generation : Fn := ⟨1, 1, c_ChildRun_generation⟩
-- 91
abbrev c_ChildRun_steps_c0 : CE := .comp false [.mk (.v 1) (.call 88 [.fld (.slot 0) "owner", .fld (.slot 0) "process"] [] [.inl 0, .inl 1]) []] [1] (.sub (.slot 1) (.lit (.int 0)))
def Nc_ChildRun_steps : List Str := ["self", "move"]
def c_ChildRun_steps : List CS :=
  [.ret (.bf .sorted false [c_ChildRun_steps_c0])]
def Fc_ChildRun_steps : Fn := ⟨1, 2, c_ChildRun_steps⟩
-- 93
def Nc_ChildRun_child : List Str := ["self"]
def c_ChildRun_child : List CS :=
  [.ret (.fld (.slot 0) "process")]
def Fc_ChildRun_child : Fn := ⟨1, 1, c_ChildRun_child⟩
-- 94
def Nc_ChildRun_stuck : List Str := ["self"]
def c_ChildRun_stuck : List CS :=
  [.ret (.call 87 [.fld (.slot 0) "owner", .fld (.slot 0) "process"] [] [.inl 0, .inl 1])]
def Fc_ChildRun_stuck : Fn := ⟨1, 1, c_ChildRun_stuck⟩
-- 95
def Nc_ChildRun_history : List Str := ["self"]
def c_ChildRun_history : List CS :=
  [.ret (.bf .list false [.fld (.slot 0) "past"])]
def Fc_ChildRun_history : Fn := ⟨1, 1, c_ChildRun_history⟩
-- 96
def Nc_child_of : List Str := ["system", "locked", "values", "state", "program", "position", "held", "writing"]
def c_child_of : List CS :=
  [.asg (.pat (.t [.v 4, .v 5, .v 6, .v 7])) (.slot 3),
    .ret (.tup [.slot 1, .slot 2, .tup [.slot 4, .sub (.sub (.slot 0) (.tup [.slot 4, .slot 5])) (.lit (.int 1)), .slot 6, .lit (.bl false)]])]
def Fc_child_of : Fn := ⟨4, 8, c_child_of⟩
-- 98
abbrev c_ways_to_w0 : CS := .whl (.cmp .isNot (.sub (.slot 0) (.slot 1)) (.lit .non)) [.asg (.pat (.t [.v 3, .v 1])) (.sub (.slot 0) (.slot 1)),
    .exp (.bm .append true (.slot 2) [.slot 3])]
def Nc_ways_to : List Str := ["came", "child", "found", "way"]
def c_ways_to : List CS :=
  [.asg (.pat (.v 2)) (.lst true []),
    c_ways_to_w0,
    .ret (.rev false (.slot 2))]
def Fc_ways_to : Fn := ⟨2, 4, c_ways_to⟩
-- 109
def Nc_minimal : List Str := ["system", "patterns"]
def c_minimal : List CS :=
  [.ret (.sub (.call 108 [.slot 0, .slot 1] [] [.inl 0, .inl 1]) (.neg (.lit (.int 1))))]
def Fc_minimal : Fn := ⟨2, 2, c_minimal⟩
-- 110
abbrev c_counts_of_c0 : CE := .comp false [.mk (.v 4) (.rng [.bf .len false [.slot 0]]) []] [4] (.bm .count false (.slot 2) [.tup [.slot 4, .lit (.int 0), .tup [], .lit (.bl false)]])
def Nc_counts_of : List Str := ["system", "configuration", "threads", "counts", "program"]
def c_counts_of : List CS :=
  [.asg (.pat (.v 2)) (.sub (.slot 1) (.lit (.int 2))),
    .asg (.pat (.v 3)) (.bf .tuple false [c_counts_of_c0]),
    .ret (.ite (.cmp .eq (.slot 1) (.call 58 [.slot 0, .slot 3] [] [.inl 0, .inl 1])) (.slot 3) (.lit .non))]
def Fc_counts_of : Fn := ⟨2, 5, c_counts_of⟩
-- 111
abbrev c_corners_of_c0 : CE := .comp false [.mk (.v 3) (.slot 1) []] [3] (.call 110 [.slot 0, .slot 3] [] [.inl 0, .inl 1])
abbrev c_corners_of_c1 : CE := .comp false [.mk (.v 4) (.slot 2) [.cmp .isNot (.slot 4) (.lit .non)]] [4] (.slot 4)
def Nc_corners_of : List Str := ["system", "level", "found", "configuration", "counts"]
def c_corners_of : List CS :=
  [.asg (.pat (.v 2)) (c_corners_of_c0),
    .ret (c_corners_of_c1)]
def Fc_corners_of : Fn := ⟨2, 5, c_corners_of⟩
-- 112
def Nc_reaching : List Str := ["system", "patterns", "steps", "found", "last"]
def c_reaching : List CS :=
  [.asg (.pat (.v 3)) (.call 108 [.slot 0, .slot 1] [] [.inl 0, .inl 1]),
    .asg (.pat (.v 4)) (.bin .sub false (.bf .len false [.slot 3]) (.lit (.int 1))),
    .ret (.mk false 10 [.bf .len false [.slot 0], .call 111 [.slot 0, .sub (.slot 3) (.ite (.cmp .is (.slot 2) (.lit .non)) (.slot 4) (.bf .min2 false [.slot 2, .slot 4]))] [] [.inl 0, .inl 1]] [] [.inl 0, .inl 1, .inl 2])]
def Fc_reaching : Fn := ⟨3, 5, c_reaching⟩
-- 113
abbrev c_steps_within_l0 : CS := .loop (.t [.v 3, .v 4]) (.enum (.slot 1)) [.ite (.cmp .inn (.slot 2) (.mk false 10 [.bf .len false [.slot 0], .call 111 [.slot 0, .slot 4] [] [.inl 0, .inl 1]] [] [.inl 0, .inl 1, .inl 2])) [.ret (.slot 3)] []]
def Nc_steps_within : List Str := ["system", "found", "counts", "index", "level"]
def c_steps_within : List CS :=
  [c_steps_within_l0,
    .ret (.lit .non)]
def Fc_steps_within : Fn := ⟨3, 5, c_steps_within⟩
-- 114
def Nc_fewest_steps : List Str := ["system", "patterns", "counts"]
def c_fewest_steps : List CS :=
  [.ret (.call 113 [.slot 0, .call 108 [.slot 0, .slot 1] [] [.inl 0, .inl 1], .slot 2] [] [.inl 0, .inl 1, .inl 2])]
def Fc_fewest_steps : Fn := ⟨3, 3, c_fewest_steps⟩
-- 115
abbrev c_step_into_l0 : CS := .loop (.t [.v 8, .v 9, .v 10, .v 11]) (.call 27 [.slot 0, .slot 7, .slot 2, .slot 3] [] [.inl 0, .inl 1, .inl 2, .inl 3]) [.asg (.pat (.v 12)) (.lst false [.star (.cut false (.slot 4) none (some (.slot 6))), .slot 9, .star (.cut false (.slot 4) (some (.bin .add false (.slot 6) (.lit (.int 1)))) none)]),
    .ite (.meth "has_within" (.slot 5) [.tup [.slot 10, .slot 11, .bf .tuple false [.bf .sorted false [.slot 12]]]] [] [.inl 0, .inl 1]) [.ret (.tup [.tup [.slot 6, .slot 8], .slot 10, .slot 11, .slot 12])] []]
abbrev c_step_into_l1 : CS := .loop (.t [.v 6, .v 7]) (.enum (.slot 4)) [c_step_into_l0]
def Nc_step_into : List Str := ["system", "level", "locked", "values", "states", "least", "thread", "state", "way", "after", "later", "written", "rest"]
def c_step_into : List CS :=
  [.asg (.pat (.v 5)) (.mk false 16 [.slot 1] [] [.inl 0, .inl 1]),
    c_step_into_l1,
    .ret (.lit .non)]
def Fc_step_into : Fn := ⟨5, 13, c_step_into⟩
-- 120
abbrev c_patterns_of_c0 : CE := .comp false [.mk (.t [.v 1, .v 2]) (.slot 0) []] [1, 2] (.slot 1)
def Nc_patterns_of : List Str := ["rows", "pattern", "least"]
def c_patterns_of : List CS :=
  [.ret (.bf .sorted false [c_patterns_of_c0])]
def Fc_patterns_of : Fn := ⟨1, 3, c_patterns_of⟩
-- 122
abbrev c_problems_c0 : CE := .comp false [.mk (.v 2) (.bf .sorted false [.bf .list false [.slot 1]]) [.cmp .gt (.bf .len false [.call 112 [.slot 0, .call 120 [.sub (.slot 1) (.slot 2)] [] [.inl 0]] [] [.inl 0, .inl 1, .inr (.non)]]) (.lit (.int 0))]] [2] (.slot 2)
def Nc_problems : List Str := ["system", "table", "problem"]
def c_problems : List CS :=
  [.asg (.pat (.v 1)) (.call 119 [.slot 0] [] [.inl 0]),
    .ret (c_problems_c0)]
def Fc_problems : Fn := ⟨1, 3, c_problems⟩
-- 123
abbrev c_first_problem_l0 : CS := .loop (.v 2) (.bf .sorted false [.bf .list false [.slot 1]]) [.ite (.cmp .gt (.bf .len false [.call 112 [.slot 0, .call 120 [.sub (.slot 1) (.slot 2)] [] [.inl 0]] [] [.inl 0, .inl 1, .inr (.non)]]) (.lit (.int 0))) [.ret (.slot 2)] []]
def Nc_first_problem : List Str := ["system", "table", "problem"]
def c_first_problem : List CS :=
  [.asg (.pat (.v 1)) (.call 119 [.slot 0] [] [.inl 0]),
    .ite (.cmp .gt (.bf .len false [.call 112 [.slot 0, .call 121 [.slot 0] [] [.inl 0]] [] [.inl 0, .inl 1, .inr (.non)]]) (.lit (.int 0))) [c_first_problem_l0] [],
    .ret (.lit .non)]
def Fc_first_problem : Fn := ⟨1, 3, c_first_problem⟩
-- 125
def Nc_problem_counts : List Str := ["system", "problem"]
def c_problem_counts : List CS :=
  [.ret (.call 112 [.slot 0, .call 124 [.slot 0, .slot 1] [] [.inl 0, .inl 1]] [] [.inl 0, .inl 1, .inr (.non)])]
def Fc_problem_counts : Fn := ⟨2, 2, c_problem_counts⟩
-- 127
abbrev c_problem_history_l0 : CS := .loop (.v 6) (.slot 3) [.exp (.meth "do" (.slot 5) [.slot 6] [] [.inl 0, .inl 1])]
abbrev c_problem_history_c1 : CE := .comp false [.mk (.t [.v 10, .v 11]) (.enum (.meth "states" (.slot 5) [] [] [.inl 0])) [.cmp .inn (.tup [.slot 7, .slot 8, .tup [.slot 11]]) (.slot 2)]] [10, 11] (.slot 10)
def Nc_problem_history : List Str := ["system", "problem", "patterns", "steps", "counts", "run", "step", "locked", "values", "threads", "thread", "state", "child", "position", "reason", "number"]
def c_problem_history : List CS :=
  [.asg (.pat (.v 2)) (.call 124 [.slot 0, .slot 1] [] [.inl 0, .inl 1]),
    .asg (.pat (.v 3)) (.call 116 [.slot 0, .slot 2] [] [.inl 0, .inl 1, .inr (.non)]),
    .asg (.pat (.v 4)) (.meth "smallest" (.call 112 [.slot 0, .slot 2] [] [.inl 0, .inl 1, .inr (.non)]) [] [] [.inl 0]),
    .asg (.pat (.v 5)) (.mk false 14 [.slot 0, .slot 4] [] [.inl 0, .inl 1, .inl 2]),
    c_problem_history_l0,
    .asg (.pat (.t [.v 7, .v 8])) (.meth "shared" (.slot 5) [] [] [.inl 0]),
    .asg (.pat (.v 9)) (c_problem_history_c1),
    .asg (.pat (.v 12)) (.call 96 [.slot 0, .slot 7, .slot 8, .sub (.meth "states" (.slot 5) [] [] [.inl 0]) (.sub (.slot 9) (.lit (.int 0)))] [] [.inl 0, .inl 1, .inl 2, .inl 3]),
    .asg (.pat (.t [.v 13, .v 14, .v 15])) (.cut false (.slot 1) (some (.lit (.int 2))) none),
    .ret (.tup [.slot 4, .slot 3, .sub (.slot 9) (.lit (.int 0)), .call 99 [.slot 0, .slot 12, .slot 13, .slot 14, .slot 15] [] [.inl 0, .inl 1, .inl 2, .inl 3, .inl 4]])]
def Fc_problem_history : Fn := ⟨2, 16, c_problem_history⟩
-- 128
def Nc_wanted_lock : List Str := ["system", "state", "instruction"]
def c_wanted_lock : List CS :=
  [.asg (.pat (.v 2)) (.sub (.slot 0) (.tup [.sub (.slot 1) (.lit (.int 0)), .sub (.slot 1) (.lit (.int 1))])),
    .ret (.ite (.cmp .eq (.sub (.slot 2) (.lit (.int 0))) (.lit (.str "acquire"))) (.sub (.slot 2) (.lit (.int 1))) (.lit .non))]
def Fc_wanted_lock : Fn := ⟨2, 3, c_wanted_lock⟩
-- 129
def Nc_has_ended : List Str := ["system", "state"]
def c_has_ended : List CS :=
  [.ret (.cmp .eq (.sub (.sub (.slot 0) (.tup [.sub (.slot 1) (.lit (.int 0)), .sub (.slot 1) (.lit (.int 1))])) (.lit (.int 0))) (.lit (.str "end")))]
def Fc_has_ended : Fn := ⟨2, 2, c_has_ended⟩
-- 130
abbrev c_idle_holders_c0 : CE := .comp false [.mk (.v 2) (.call 48 [.slot 0] [] [.inl 0]) [.disj [.call 129 [.slot 0, .slot 2] [] [.inl 0, .inl 1], .cmp .isNot (.call 128 [.slot 0, .slot 2] [] [.inl 0, .inl 1]) (.lit .non)]]] [2] (.slot 2)
abbrev c_idle_holders_c1 : CE := .comp false [.mk (.v 2) (.slot 1) [.cmp .inn (.slot 3) (.sub (.slot 2) (.lit (.int 2)))]] [2] (.slot 2)
abbrev c_idle_holders_c2 : CE := .comp false [.mk (.v 3) (.rng [.prop (.slot 0) "locks"]) []] [3] (c_idle_holders_c1)
def Nc_idle_holders : List Str := ["system", "some", "state", "lock"]
def c_idle_holders : List CS :=
  [.asg (.pat (.v 1)) (c_idle_holders_c0),
    .ret (c_idle_holders_c2)]
def Fc_idle_holders : Fn := ⟨1, 4, c_idle_holders⟩
-- 132
def Nc_is_block : List Str := ["system", "row", "wanted"]
def c_is_block : List CS :=
  [.asg (.pat (.v 2)) (.call 128 [.slot 0, .sub (.slot 1) (.neg (.lit (.int 1)))] [] [.inl 0, .inl 1]),
    .ret (.ite (.cmp .is (.slot 2) (.lit .non)) (.cmp .eq (.bf .len false [.slot 1]) (.lit (.int 2))) (.cmp .inn (.slot 2) (.sub (.sub (.slot 1) (.lit (.int 0))) (.lit (.int 2)))))]
def Fc_is_block : Fn := ⟨2, 3, c_is_block⟩
-- 134
abbrev c_blocking_counts_c0 : CE := .comp false [.mk (.v 1) (.call 133 [.slot 0] [] [.inl 0]) []] [1] (.tup [.lit .non, .lit .non, .slot 1])
def Nc_blocking_counts : List Str := ["system", "block"]
def c_blocking_counts : List CS :=
  [.ret (.call 112 [.slot 0, c_blocking_counts_c0] [] [.inl 0, .inl 1, .inr (.non)])]
def Fc_blocking_counts : Fn := ⟨1, 2, c_blocking_counts⟩
-- 135
abbrev c_is_blocked_w0 : CS := .whl (.conj [.cmp .notIn (.slot 2) (.slot 3), .cmp .inn (.call 128 [.slot 0, .slot 2] [] [.inl 0, .inl 1]) (.slot 1)]) [.exp (.bm .append true (.slot 3) [.slot 2]),
    .asg (.pat (.v 2)) (.sub (.slot 1) (.call 128 [.slot 0, .slot 2] [] [.inl 0, .inl 1]))]
def Nc_is_blocked : List Str := ["system", "owners", "state", "seen"]
def c_is_blocked : List CS :=
  [.asg (.pat (.v 3)) (.lst true []),
    c_is_blocked_w0,
    .ret (.disj [.cmp .inn (.slot 2) (.slot 3), .conj [.cmp .ne (.slot 3) (.lst false []), .call 129 [.slot 0, .slot 2] [] [.inl 0, .inl 1]]])]
def Fc_is_blocked : Fn := ⟨3, 4, c_is_blocked⟩
-- 137
abbrev c_Guarding___init___c0 : CE := .comp false [.mk (.t [.v 3, .v 4]) (.enum (.slot 1)) [.cmp .eq (.sub (.slot 4) (.lit (.int 0))) (.lit (.str "fork"))]] [3, 4] (.slot 3)
def Nc_Guarding___init__ : List Str := ["self", "instructions", "guard", "at", "instruction"]
def c_Guarding___init__ : List CS :=
  [.asg (.fld (.slot 0) "elder") (.slot 1),
    .asg (.fld (.slot 0) "added") (.slot 2),
    .asg (.fld (.slot 0) "forks") (c_Guarding___init___c0)]
def Fc_Guarding___init__ : Fn := ⟨3, 5, c_Guarding___init__⟩
-- 138
abbrev c_Guarding_moved_c0 : CE := .comp false [.mk (.v 2) (.fld (.slot 0) "forks") [.cmp .lt (.slot 2) (.slot 1)]] [2] (.slot 2)
def Nc_Guarding_moved : List Str := ["self", "at", "fork"]
def c_Guarding_moved : List CS :=
  [.ret (.bin .add false (.slot 1) (.bin .mul false (.bin .mul false (.lit (.int 2)) (.bf .len false [.fld (.slot 0) "added"])) (.bf .len false [c_Guarding_moved_c0])))]
def Fc_Guarding_moved : Fn := ⟨2, 3, c_Guarding_moved⟩
-- 139
abbrev c_Guarding_acquires_c0 : CE := .comp false [.mk (.v 1) (.fld (.slot 0) "forks") [], .mk (.v 2) (.rng [.bf .len false [.fld (.slot 0) "added"]]) []] [1, 2] (.bin .add false (.meth "moved" (.slot 0) [.slot 1] [] [.inl 0, .inl 1]) (.slot 2))
def Nc_Guarding_acquires : List Str := ["self", "fork", "place"]
def c_Guarding_acquires : List CS :=
  [.ret (c_Guarding_acquires_c0)]
def Fc_Guarding_acquires : Fn := ⟨1, 3, c_Guarding_acquires⟩
-- 140
def Nc_Guarding_piece_at : List Str := ["self", "fork"]
def c_Guarding_piece_at : List CS :=
  [.ret (.bin .add false (.meth "moved" (.slot 0) [.bf .len false [.fld (.slot 0) "elder"]] [] [.inl 0, .inl 1]) (.bin .mul false (.bm .index false (.fld (.slot 0) "forks") [.slot 1]) (.bin .add false (.bf .len false [.fld (.slot 0) "added"]) (.lit (.int 1)))))]
def Fc_Guarding_piece_at : Fn := ⟨2, 2, c_Guarding_piece_at⟩
-- 141
abbrev c_Guarding_releases_c0 : CE := .comp false [.mk (.v 1) (.rev false (.fld (.slot 0) "added")) []] [1] (.tup [.lit (.str "release"), .slot 1])
def Nc_Guarding_releases : List Str := ["self", "lock"]
def c_Guarding_releases : List CS :=
  [.ret (c_Guarding_releases_c0)]
def Fc_Guarding_releases : Fn := ⟨1, 2, c_Guarding_releases⟩
-- 143
abbrev c_Guarding_instructions_l0 : CS := .loop (.v 2) (.rng [.bf .len false [.fld (.slot 0) "elder"]]) [.aug 1 .add (.meth "replaced" (.slot 0) [.slot 2] [] [.inl 0, .inl 1])]
abbrev c_Guarding_instructions_l1 : CS := .loop (.v 3) (.fld (.slot 0) "forks") [.aug 1 .add (.lst false [.star (.meth "releases" (.slot 0) [] [] [.inl 0]), .tup [.lit (.str "jump"), .meth "moved" (.slot 0) [.sub (.sub (.fld (.slot 0) "elder") (.slot 3)) (.lit (.int 1))] [] [.inl 0, .inl 1]]])]
def Nc_Guarding_instructions : List Str := ["self", "found", "at", "fork"]
def c_Guarding_instructions : List CS :=
  [.asg (.pat (.v 1)) (.lst false []),
    c_Guarding_instructions_l0,
    c_Guarding_instructions_l1,
    .ret (.bf .tuple false [.slot 1])]
def Fc_Guarding_instructions : Fn := ⟨1, 4, c_Guarding_instructions⟩
-- 144
abbrev c_guarded_c0 : CE := .comp false [.mk (.v 3) (.prop (.slot 0) "programs") []] [3] (.meth "instructions" (.mk false 17 [.slot 3, .slot 1] [] [.inl 0, .inl 1, .inl 2]) [] [] [.inl 0])
def Nc_guarded : List Str := ["system", "guard", "programs", "program"]
def c_guarded : List CS :=
  [.ite (.cmp .eq (.slot 1) (.tup [])) [.ret (.slot 0)] [],
    .asg (.pat (.v 2)) (c_guarded_c0),
    .ret (.call 20 [.bf .tuple false [.slot 2], .prop (.slot 0) "locks", .prop (.slot 0) "tops"] [] [.inl 0, .inl 1, .inl 2])]
def Fc_guarded : Fn := ⟨2, 4, c_guarded⟩
-- 145
abbrev c_added_c0 : CE := .comp false [.mk (.v 3) (.prop (.slot 0) "programs") []] [3] (.meth "acquires" (.mk false 17 [.slot 3, .slot 1] [] [.inl 0, .inl 1, .inl 2]) [] [] [.inl 0])
abbrev c_added_c1 : CE := .comp false [.mk (.t [.v 3, .v 4]) (.enum (.slot 2)) [], .mk (.v 5) (.slot 4) []] [3, 4, 5] (.tup [.slot 3, .slot 5])
def Nc_added : List Str := ["system", "guard", "rows", "program", "row", "at"]
def c_added : List CS :=
  [.asg (.pat (.v 2)) (c_added_c0),
    .ret (c_added_c1)]
def Fc_added : Fn := ⟨2, 6, c_added⟩
-- 147
def Nc_is_safe : List Str := ["system", "guard", "whole"]
def c_is_safe : List CS :=
  [.asg (.pat (.v 2)) (.call 144 [.slot 0, .slot 1] [] [.inl 0, .inl 1]),
    .ite (.cmp .gt (.bf .len false [.call 112 [.slot 2, .call 121 [.slot 2] [] [.inl 0]] [] [.inl 0, .inl 1, .inr (.non)]]) (.lit (.int 0))) [.ret (.lit (.bl false))] [],
    .ret (.cmp .eq (.bf .len false [.call 112 [.slot 2, .call 146 [.slot 2, .call 145 [.slot 0, .slot 1] [] [.inl 0, .inl 1]] [] [.inl 0, .inl 1]] [] [.inl 0, .inl 1, .inr (.non)]]) (.lit (.int 0)))]
def Fc_is_safe : Fn := ⟨2, 3, c_is_safe⟩
-- 148
def Nc_why_unsafe : List Str := ["system", "guard", "whole", "problem", "patterns", "counts"]
def c_why_unsafe : List CS :=
  [.asg (.pat (.v 2)) (.call 144 [.slot 0, .slot 1] [] [.inl 0, .inl 1]),
    .asg (.pat (.v 3)) (.call 123 [.slot 2] [] [.inl 0]),
    .ite (.cmp .isNot (.slot 3) (.lit .non)) [.ret (.tup [.lit (.str "problem"), .slot 3])] [],
    .asg (.pat (.v 4)) (.call 146 [.slot 2, .call 145 [.slot 0, .slot 1] [] [.inl 0, .inl 1]] [] [.inl 0, .inl 1]),
    .asg (.pat (.v 5)) (.meth "smallest" (.call 112 [.slot 2, .slot 4] [] [.inl 0, .inl 1, .inr (.non)]) [] [] [.inl 0]),
    .ret (.ite (.cmp .is (.slot 5) (.lit .non)) (.lit .non) (.tup [.lit (.str "block"), .slot 5, .call 116 [.slot 2, .slot 4, .slot 5] [] [.inl 0, .inl 1, .inl 2]]))]
def Fc_why_unsafe : Fn := ⟨2, 6, c_why_unsafe⟩
-- 149
abbrev c_arrangements_c0 : CE := .comp false [.mk (.v 4) (.slot 2) [], .mk (.v 5) (.rng [.slot 0]) [.cmp .notIn (.slot 5) (.slot 4)]] [4, 5] (.tup [.star (.slot 4), .slot 5])
abbrev c_arrangements_l1 : CS := .loop (.v 3) (.rng [.slot 1]) [.asg (.pat (.v 2)) (c_arrangements_c0)]
def Nc_arrangements : List Str := ["locks", "many", "found", "turn", "row", "lock"]
def c_arrangements : List CS :=
  [.asg (.pat (.v 2)) (.lst false [.tup []]),
    c_arrangements_l1,
    .ret (.slot 2)]
def Fc_arrangements : Fn := ⟨2, 6, c_arrangements⟩
-- 150
abbrev c_best_guard_c0 : CE := .comp false [.mk (.v 5) (.slot 6) []] [5] (.sub (.slot 2) (.slot 5))
abbrev c_best_guard_c1 : CE := .comp false [.mk (.v 6) (.call 149 [.prop (.slot 0) "locks", .slot 3] [] [.inl 0, .inl 1]) []] [6] (.tup [.bf .sum false [c_best_guard_c0], .slot 6])
abbrev c_best_guard_l2 : CS := .loop (.t [.v 7, .v 8]) (.bf .sorted false [.slot 4]) [.ite (.call 147 [.slot 0, .slot 8] [] [.inl 0, .inl 1]) [.ret (.slot 8)] []]
abbrev c_best_guard_l3 : CS := .loop (.v 3) (.rng [.bin .add false (.prop (.slot 0) "locks") (.lit (.int 1))]) [.asg (.pat (.v 4)) (c_best_guard_c1),
    c_best_guard_l2]
def Nc_best_guard : List Str := ["system", "prices", "costs", "many", "rows", "lock", "row", "price", "guard"]
def c_best_guard : List CS :=
  [.asg (.pat (.v 2)) (.ite (.cmp .is (.slot 1) (.lit .non)) (.bin .mul false (.lst false [.lit (.int 0)]) (.prop (.slot 0) "locks")) (.bf .list false [.slot 1])),
    c_best_guard_l3,
    .ret (.lit .non)]
def Fc_best_guard : Fn := ⟨2, 9, c_best_guard⟩
-- 152
abbrev c_is_begun_by_c0 : CE := .comp false [.mk (.t [.v 4, .v 5]) (.zip (.slot 3) (.slot 2)) []] [4, 5] (.cmp .le (.slot 4) (.slot 5))
def Nc_is_begun_by : List Str := ["system", "configuration", "counts", "own", "mine", "yours"]
def c_is_begun_by : List CS :=
  [.asg (.pat (.v 3)) (.call 110 [.slot 0, .slot 1] [] [.inl 0, .inl 1]),
    .ret (.conj [.cmp .isNot (.slot 3) (.lit .non), .disj [.cmp .is (.slot 2) (.lit .non), .bf .all false [c_is_begun_by_c0]]])]
def Fc_is_begun_by : Fn := ⟨3, 6, c_is_begun_by⟩
-- 153
abbrev c_is_certificate_c0 : CE := .comp false [.mk (.v 5) (.slot 2) []] [5] (.call 55 [.slot 0, .slot 4, .slot 5] [] [.inl 0, .inl 1, .inl 2])
abbrev c_is_certificate_c1 : CE := .comp false [.mk (.v 8) (.call 100 [.slot 0, .slot 1] [] [.inl 0, .inl 1]) []] [8] (.meth "has_within" (.slot 6) [.slot 8] [] [.inl 0, .inl 1])
abbrev c_is_certificate_c2 : CE := .comp false [.mk (.v 5) (.call 103 [.slot 7, .slot 8] [] [.inl 0, .inl 1]) []] [5] (.meth "has_within" (.slot 6) [.slot 5] [] [.inl 0, .inl 1])
abbrev c_is_certificate_l3 : CS := .loop (.v 8) (.slot 2) [.ite (.call 152 [.slot 0, .slot 8, .slot 3] [] [.inl 0, .inl 1, .inl 2]) [.ret (.lit (.bl false))] [],
    .ite (.not (.bf .all false [c_is_certificate_c2])) [.ret (.lit (.bl false))] []]
def Nc_is_certificate : List Str := ["system", "patterns", "value", "counts", "known", "one", "least", "table", "configuration"]
def c_is_certificate : List CS :=
  [.asg (.pat (.v 4)) (.call 48 [.slot 0] [] [.inl 0]),
    .ite (.disj [.not (.isi (.slot 2) [.list]), .not (.bf .all false [c_is_certificate_c0])]) [.ret (.lit (.bl false))] [],
    .asg (.pat (.t [.v 6, .v 7])) (.tup [.mk false 16 [.slot 2] [] [.inl 0, .inl 1], .call 101 [.slot 0] [] [.inl 0]]),
    .ite (.not (.bf .all false [c_is_certificate_c1])) [.ret (.lit (.bl false))] [],
    c_is_certificate_l3,
    .ret (.lit (.bl true))]
def Fc_is_certificate : Fn := ⟨4, 9, c_is_certificate⟩
-- 155
abbrev c_numbers_of_c0 : CE := .comp false [.mk (.v 2) (.slot 0) []] [2] (.call 154 [.slot 2] [] [.inl 0])
def Nc_numbers_of : List Str := ["words", "found", "word"]
def c_numbers_of : List CS :=
  [.asg (.pat (.v 1)) (c_numbers_of_c0),
    .ret (.ite (.cmp .inn (.lit .non) (.slot 1)) (.lit .non) (.slot 1))]
def Fc_numbers_of : Fn := ⟨1, 3, c_numbers_of⟩
-- 156
abbrev c_words_text_c0 : CE := .comp false [.mk (.v 1) (.slot 0) []] [1] (.bf .str false [.slot 1])
def Nc_words_text : List Str := ["parts", "part"]
def c_words_text : List CS :=
  [.ret (.bm .join false (.lit (.str " ")) [c_words_text_c0])]
def Fc_words_text : Fn := ⟨1, 2, c_words_text⟩
-- 161
def Nc_state_text : List Str := ["state", "program", "position", "held", "writing"]
def c_state_text : List CS :=
  [.asg (.pat (.t [.v 1, .v 2, .v 3, .v 4])) (.slot 0),
    .ret (.bin .add false (.fmt [.slot 1, .lit (.str ":"), .slot 2, .lit (.str " ["), .call 156 [.slot 3] [] [.inl 0], .lit (.str "]")]) (.ite (.slot 4) (.lit (.str " writing")) (.lit (.str ""))))]
def Fc_state_text : Fn := ⟨1, 5, c_state_text⟩
-- 163
abbrev c_tell_problems_c0 : CE := .comp false [.mk (.v 1) (.call 122 [.fld (.slot 0) "system_now"] [] [.inl 0]) []] [1] (.call 156 [.slot 1] [] [.inl 0])
def Nc_tell_problems : List Str := ["console", "problem"]
def c_tell_problems : List CS :=
  [.ret (.call 162 [c_tell_problems_c0] [] [.inl 0])]
def Fc_tell_problems : Fn := ⟨1, 2, c_tell_problems⟩
-- 164
def Nc_tell_blocks : List Str := ["console"]
def c_tell_blocks : List CS :=
  [.ret (.bf .str false [.call 134 [.fld (.slot 0) "system_now"] [] [.inl 0]])]
def Fc_tell_blocks : Fn := ⟨1, 1, c_tell_blocks⟩
-- 165
def Nc_tell_best : List Str := ["console", "guard"]
def c_tell_best : List CS :=
  [.asg (.pat (.v 1)) (.call 150 [.fld (.slot 0) "system_now"] [] [.inl 0, .inr (.non)]),
    .ite (.cmp .is (.slot 1) (.lit .non)) [.ret (.lit (.str "none"))] [],
    .ret (.ite (.cmp .eq (.slot 1) (.tup [])) (.lit (.str "empty")) (.call 156 [.slot 1] [] [.inl 0]))]
def Fc_tell_best : Fn := ⟨1, 2, c_tell_best⟩
-- 166
def Nc_tell_undo : List Str := ["console"]
def c_tell_undo : List CS :=
  [.ret (.call 156 [.meth "undo" (.fld (.slot 0) "run_now") [] [] [.inl 0]] [] [.inl 0])]
def Fc_tell_undo : Fn := ⟨1, 1, c_tell_undo⟩
-- 167
abbrev c_tell_states_c0 : CE := .comp false [.mk (.v 1) (.meth "states" (.fld (.slot 0) "run_now") [] [] [.inl 0]) []] [1] (.call 161 [.slot 1] [] [.inl 0])
def Nc_tell_states : List Str := ["console", "state"]
def c_tell_states : List CS :=
  [.ret (.call 162 [c_tell_states_c0] [] [.inl 0])]
def Fc_tell_states : Fn := ⟨1, 2, c_tell_states⟩
-- 168
abbrev c_tell_steps_c0 : CE := .comp false [.mk (.v 1) (.meth "steps" (.fld (.slot 0) "run_now") [] [] [.inl 0]) []] [1] (.call 156 [.slot 1] [] [.inl 0])
def Nc_tell_steps : List Str := ["console", "step"]
def c_tell_steps : List CS :=
  [.ret (.call 162 [c_tell_steps_c0] [] [.inl 0])]
def Fc_tell_steps : Fn := ⟨1, 2, c_tell_steps⟩
-- 171
def Nc_Console___init__ : List Str := ["self"]
def c_Console___init__ : List CS :=
  [.asg (.fld (.slot 0) "system_now") (.lit .non),
    .asg (.fld (.slot 0) "run_now") (.lit .non)]
def Fc_Console___init__ : Fn := ⟨1, 1, c_Console___init__⟩
-- 172
def Nc_Console_load : List Str := ["self", "text", "system"]
def c_Console_load : List CS :=
  [.asg (.pat (.v 2)) (.call 160 [.slot 1] [] [.inl 0]),
    .asg (.fld (.slot 0) "system_now") (.slot 2),
    .asg (.fld (.slot 0) "run_now") (.mk false 14 [.slot 2, .bin .mul false (.tup [.lit (.int 0)]) (.bf .len false [.slot 2])] [] [.inl 0, .inl 1, .inl 2]),
    .ret (.lit (.str "ok"))]
def Fc_Console_load : Fn := ⟨2, 3, c_Console_load⟩
end Lc
end

section
set_option autoImplicit false
set_option linter.all false
set_option Elab.async false
set_option maxRecDepth 100000
/-! Lh: the core of the helpers that laws share. Printed by gen2.py. -/
namespace Lc
open PySem hiding isTrue
-- 1001
def Nh_draw : List Str := ["_law_source_here", "_law_many", "_law_digit", "_law_turn", "_law_base", "_law_mixed"]
def h_draw : List CS :=
  [.ite (.cmp .gt (.sub (.slot 0) (.lit (.int 0))) (.lit (.int 0))) [.asg (.pat (.v 2)) (.bin .mod false (.bf .int false [.sub (.slot 0) (.lit (.int 0))]) (.slot 1)),
    .asg (.sub (.slot 0) (.lit (.int 0))) (.bin .fdiv false (.sub (.slot 0) (.lit (.int 0))) (.slot 1)),
    .ret (.slot 2)] [],
    .asg (.sub (.slot 0) (.lit (.int 2))) (.bin .add false (.sub (.slot 0) (.lit (.int 2))) (.lit (.int 1))),
    .asg (.pat (.v 3)) (.sub (.slot 0) (.lit (.int 2))),
    .asg (.pat (.v 4)) (.bin .add false (.bin .add false (.bin .mul false (.sub (.slot 0) (.lit (.int 1))) (.bin .add false (.bin .mul false (.lit (.int 4)) (.slot 3)) (.lit (.int 3)))) (.bin .mul false (.bin .mul false (.lit (.int 9001)) (.slot 3)) (.slot 3))) (.lit (.int 101))),
    .asg (.pat (.v 5)) (.bin .mod false (.bf .int false [.bin .pow false (.slot 4) (.lit (.int 3))]) (.sub (.lst false [.lit (.int 2147483647), .lit (.int 2147483629), .lit (.int 2147483587), .lit (.int 2147483563), .lit (.int 2147483549)]) (.bin .mod false (.bf .int false [.slot 3]) (.lit (.int 5))))),
    .ret (.bin .mod false (.bin .fdiv false (.bin .mod false (.bf .int false [.bin .mul false (.slot 5) (.bin .add false (.bin .fdiv false (.slot 5) (.lit (.int 4093))) (.bin .mul false (.lit (.int 3)) (.slot 3)))]) (.lit (.int 2147483579))) (.lit (.int 32))) (.slot 1))]
def Fh_draw : Fn := ⟨2, 6, h_draw⟩
-- 1009
abbrev h_programs_c0 : CE := .comp false [.mk (.v 8) (.rng [.bin .sub false (.slot 6) (.lit (.int 1))]) []] [8] (.call 1016 [.slot 0, .slot 1, .slot 6] [] [.inl 0, .inl 1, .inl 2])
abbrev h_programs_l1 : CS := .loop (.v 5) (.rng [.bin .add false (.lit (.int 1)) (.call 1001 [.slot 0, .slot 2] [] [.inl 0, .inl 1])]) [.asg (.pat (.v 6)) (.bin .add false (.lit (.int 1)) (.call 1001 [.slot 0, .slot 3] [] [.inl 0, .inl 1])),
    .asg (.pat (.v 7)) (h_programs_c0),
    .exp (.bm .append true (.slot 4) [.bin .add false (.slot 7) (.lst false [.sub (.lst false [.tup [.lit (.str "end")], .tup [.lit (.str "jump"), .call 1001 [.slot 0, .slot 6] [] [.inl 0, .inl 1]]]) (.call 1001 [.slot 0, .lit (.int 2)] [] [.inl 0, .inl 1])])])]
def Nh_programs : List Str := ["_law_source_here", "_law_sizes_here", "_law_many", "_law_most", "_law_found", "_law_at", "_law_size", "_law_program", "_law_position"]
def h_programs : List CS :=
  [.asg (.pat (.v 4)) (.lst true []),
    h_programs_l1,
    .ret (.frz (.slot 4))]
def Fh_programs : Fn := ⟨4, 9, h_programs⟩
-- 1010
abbrev h_sizes_c0 : CE := .comp false [.mk (.v 1) (.rng [.call 1001 [.slot 0, .lit (.int 3)] [] [.inl 0, .inl 1]]) []] [1] (.bin .add false (.lit (.int 1)) (.call 1001 [.slot 0, .lit (.int 2)] [] [.inl 0, .inl 1]))
def Nh_sizes : List Str := ["_law_source_here", "_law_at"]
def h_sizes : List CS :=
  [.ret (.tup [.call 1001 [.slot 0, .lit (.int 4)] [] [.inl 0, .inl 1], h_sizes_c0])]
def Fh_sizes : Fn := ⟨1, 2, h_sizes⟩
-- 1016
def Nh_instruction1 : List Str := ["_law_source_here", "_law_sizes_here", "_law_size", "_law_many", "_law_bounds", "_law_other", "_law_menu", "_law_lock", "_law_variable", "_law_value"]
def h_instruction1 : List CS :=
  [.asg (.pat (.t [.v 3, .v 4])) (.slot 1),
    .asg (.pat (.t [.v 5, .v 6])) (.tup [.call 1001 [.slot 0, .slot 2] [] [.inl 0, .inl 1], .lst false []]),
    .asg (.pat (.v 7)) (.call 1001 [.slot 0, .bf .max2 false [.lit (.int 1), .slot 3]] [] [.inl 0, .inl 1]),
    .asg (.pat (.v 8)) (.call 1001 [.slot 0, .bf .max2 false [.lit (.int 1), .bf .len false [.slot 4]]] [] [.inl 0, .inl 1]),
    .asg (.pat (.v 9)) (.ite (.cmp .gt (.bf .len false [.slot 4]) (.lit (.int 0))) (.call 1001 [.slot 0, .bin .add false (.sub (.slot 4) (.slot 8)) (.lit (.int 1))] [] [.inl 0, .inl 1]) (.lit (.int 0))),
    .ite (.cmp .gt (.slot 3) (.lit (.int 0))) [.asg (.pat (.v 6)) (.lst false [.tup [.lit (.str "acquire"), .slot 7], .tup [.lit (.str "acquire"), .slot 7], .tup [.lit (.str "release"), .slot 7], .tup [.lit (.str "release"), .slot 7], .tup [.lit (.str "try"), .slot 7, .slot 5]])] [],
    .ite (.cmp .gt (.bf .len false [.slot 4]) (.lit (.int 0))) [.asg (.pat (.v 6)) (.bin .add false (.slot 6) (.lst false [.tup [.lit (.str "write"), .slot 8, .slot 9], .tup [.lit (.str "write"), .slot 8, .slot 9], .tup [.lit (.str "test"), .slot 8, .slot 9, .slot 5]]))] [],
    .asg (.pat (.v 6)) (.bin .add false (.slot 6) (.lst false [.tup [.lit (.str "choose"), .slot 5], .tup [.lit (.str "jump"), .slot 5], .tup [.lit (.str "fork"), .slot 5], .tup [.lit (.str "fork"), .slot 5], .tup [.lit (.str "end")]])),
    .ret (.sub (.slot 6) (.call 1001 [.slot 0, .bf .len false [.slot 6]] [] [.inl 0, .inl 1]))]
def Fh_instruction1 : Fn := ⟨3, 10, h_instruction1⟩
-- 1026
def Nh_item_put : List Str := ["_law_items", "_law_index", "_law_item"]
def h_item_put : List CS :=
  [.ret (.bin .add false (.bin .add false (.cut false (.slot 0) none (some (.slot 1))) (.tup [.slot 2])) (.cut false (.slot 0) (some (.bin .add false (.slot 1) (.lit (.int 1)))) none))]
def Fh_item_put : Fn := ⟨3, 3, h_item_put⟩
-- 1027
abbrev h_moves_c0 : CE := .comp false [.mk (.v 11) (.slot 6) [.cmp .ne (.slot 11) (.sub (.slot 8) (.lit (.int 1)))]] [11] (.slot 11)
abbrev h_moves_c1 : CE := .comp false [.mk (.v 11) (.slot 2) [.cmp .ne (.slot 11) (.sub (.slot 8) (.lit (.int 1)))]] [11] (.slot 11)
def Nh_moves : List Str := ["_law_programs_here", "_law_state", "_law_locked", "_law_values", "_law_program", "_law_position", "_law_held", "_law_writing", "_law_row", "_law_ahead", "_law_later", "_law_lock"]
def h_moves : List CS :=
  [.asg (.pat (.t [.v 4, .v 5, .v 6, .v 7])) (.slot 1),
    .asg (.pat (.v 8)) (.sub (.sub (.slot 0) (.slot 4)) (.slot 5)),
    .asg (.pat (.v 9)) (.tup [.slot 4, .bin .add false (.slot 5) (.lit (.int 1)), .slot 6, .lit (.bl false)]),
    .ite (.cmp .eq (.sub (.slot 8) (.lit (.int 0))) (.lit (.str "end"))) [.ret (.lst false [])] [],
    .ite (.cmp .inn (.sub (.slot 8) (.lit (.int 0))) (.tup [.lit (.str "acquire"), .lit (.str "try")])) [.ite (.cmp .notIn (.sub (.slot 8) (.lit (.int 1))) (.slot 2)) [.asg (.pat (.v 10)) (.tup [.slot 4, .bin .add false (.slot 5) (.lit (.int 1)), .bf .tuple false [.bf .sorted false [.bin .add false (.slot 6) (.tup [.sub (.slot 8) (.lit (.int 1))])]], .lit (.bl false)]),
    .ret (.lst false [.tup [.lit (.int 0), .slot 10, .bf .tuple false [.bf .sorted false [.bin .add false (.slot 2) (.tup [.sub (.slot 8) (.lit (.int 1))])]], .slot 3]])] [],
    .ite (.cmp .eq (.sub (.slot 8) (.lit (.int 0))) (.lit (.str "acquire"))) [.ret (.lst false [])] [],
    .ret (.lst false [.tup [.lit (.int 0), .tup [.slot 4, .sub (.slot 8) (.lit (.int 2)), .slot 6, .lit (.bl false)], .slot 2, .slot 3]])] [],
    .ite (.conj [.cmp .eq (.sub (.slot 8) (.lit (.int 0))) (.lit (.str "release")), .cmp .inn (.sub (.slot 8) (.lit (.int 1))) (.slot 6)]) [.asg (.pat (.v 10)) (.tup [.slot 4, .bin .add false (.slot 5) (.lit (.int 1)), .bf .tuple false [h_moves_c0], .lit (.bl false)]),
    .ret (.lst false [.tup [.lit (.int 0), .slot 10, .bf .tuple false [h_moves_c1], .slot 3]])] [],
    .ite (.conj [.cmp .eq (.sub (.slot 8) (.lit (.int 0))) (.lit (.str "write")), .not (.slot 7)]) [.ret (.lst false [.tup [.lit (.int 0), .tup [.slot 4, .slot 5, .slot 6, .lit (.bl true)], .slot 2, .call 1026 [.slot 3, .sub (.slot 8) (.lit (.int 1)), .neg (.lit (.int 1))] [] [.inl 0, .inl 1, .inl 2]]])] [],
    .ite (.cmp .eq (.sub (.slot 8) (.lit (.int 0))) (.lit (.str "write"))) [.ret (.lst false [.tup [.lit (.int 0), .slot 9, .slot 2, .call 1026 [.slot 3, .sub (.slot 8) (.lit (.int 1)), .sub (.slot 8) (.lit (.int 2))] [] [.inl 0, .inl 1, .inl 2]]])] [],
    .ite (.conj [.cmp .eq (.sub (.slot 8) (.lit (.int 0))) (.lit (.str "test")), .cmp .eq (.sub (.slot 3) (.sub (.slot 8) (.lit (.int 1)))) (.neg (.lit (.int 1)))]) [.ret (.lst false [])] [],
    .ite (.conj [.cmp .eq (.sub (.slot 8) (.lit (.int 0))) (.lit (.str "test")), .cmp .eq (.sub (.slot 3) (.sub (.slot 8) (.lit (.int 1)))) (.sub (.slot 8) (.lit (.int 2)))]) [.ret (.lst false [.tup [.lit (.int 0), .tup [.slot 4, .sub (.slot 8) (.lit (.int 3)), .slot 6, .lit (.bl false)], .slot 2, .slot 3]])] [],
    .ite (.cmp .eq (.sub (.slot 8) (.lit (.int 0))) (.lit (.str "jump"))) [.ret (.lst false [.tup [.lit (.int 0), .tup [.slot 4, .sub (.slot 8) (.lit (.int 1)), .slot 6, .lit (.bl false)], .slot 2, .slot 3]])] [],
    .ite (.cmp .eq (.sub (.slot 8) (.lit (.int 0))) (.lit (.str "choose"))) [.ret (.lst false [.tup [.lit (.int 0), .slot 9, .slot 2, .slot 3], .tup [.lit (.int 1), .tup [.slot 4, .sub (.slot 8) (.lit (.int 1)), .slot 6, .lit (.bl false)], .slot 2, .slot 3]])] [],
    .ret (.lst false [.tup [.lit (.int 0), .slot 9, .slot 2, .slot 3]])]
def Fh_moves : Fn := ⟨4, 12, h_moves⟩
-- 1028
abbrev h_begun_l0 : CS := .loop (.v 4) (.rng [.bf .len false [.slot 0]]) [.asg (.pat (.v 3)) (.bin .add false (.slot 3) (.bin .mul false (.lst false [.tup [.slot 4, .lit (.int 0), .tup [], .lit (.bl false)]]) (.sub (.slot 2) (.slot 4))))]
def Nh_begun : List Str := ["_law_programs_here", "_law_bounds", "_law_counts_here", "_law_states", "_law_program"]
def h_begun : List CS :=
  [.asg (.pat (.v 3)) (.lst false []),
    h_begun_l0,
    .ret (.tup [.bf .tuple false [.slot 3], .tup [], .bin .mul false (.tup [.lit (.int 0)]) (.bf .len false [.slot 1]), .lst false []])]
def Fh_begun : Fn := ⟨3, 5, h_begun⟩
-- 1029
abbrev h_after_l0 : CS := .loop (.t [.v 7, .v 8, .v 9, .v 10]) (.call 1027 [.slot 0, .sub (.slot 3) (.sub (.slot 2) (.lit (.int 0))), .slot 4, .slot 5] [] [.inl 0, .inl 1, .inl 2, .inl 3]) [.ite (.cmp .eq (.slot 7) (.sub (.slot 2) (.lit (.int 1)))) [.asg (.pat (.t [.v 11, .v 12, .v 13, .v 14])) (.sub (.slot 3) (.sub (.slot 2) (.lit (.int 0)))),
    .asg (.pat (.v 15)) (.sub (.sub (.slot 0) (.slot 11)) (.slot 12)),
    .asg (.pat (.v 16)) (.bin .mul false (.lst false [.tup [.slot 4, .slot 5, .tup [.slot 11, .sub (.slot 15) (.bin .sub false (.bf .len false [.slot 15]) (.lit (.int 1))), .slot 13, .lit (.bl false)]]]) (.bf .int false [.cmp .eq (.sub (.slot 15) (.lit (.int 0))) (.lit (.str "fork"))])),
    .ret (.tup [.call 1026 [.slot 3, .sub (.slot 2) (.lit (.int 0)), .slot 8] [] [.inl 0, .inl 1, .inl 2], .slot 9, .slot 10, .bin .add false (.slot 6) (.slot 16)])] []]
def Nh_after : List Str := ["_law_programs_here", "_law_moment", "_law_step", "_law_states", "_law_locked", "_law_values", "_law_born", "_law_way", "_law_later", "_law_more", "_law_written", "_law_program", "_law_position", "_law_held", "_law_writing", "_law_row", "_law_child"]
def h_after : List CS :=
  [.asg (.pat (.t [.v 3, .v 4, .v 5, .v 6])) (.slot 1),
    h_after_l0,
    .ret (.lit .non)]
def Fh_after : Fn := ⟨3, 17, h_after⟩
-- 1030
abbrev h_steps_l0 : CS := .loop (.v 4) (.call 1027 [.slot 0, .sub (.sub (.slot 1) (.lit (.int 0))) (.slot 3), .sub (.slot 1) (.lit (.int 1)), .sub (.slot 1) (.lit (.int 2))] [] [.inl 0, .inl 1, .inl 2, .inl 3]) [.exp (.bm .append true (.slot 2) [.tup [.slot 3, .sub (.slot 4) (.lit (.int 0))]])]
abbrev h_steps_l1 : CS := .loop (.v 3) (.rng [.bf .len false [.sub (.slot 1) (.lit (.int 0))]]) [h_steps_l0]
def Nh_steps : List Str := ["_law_programs_here", "_law_moment", "_law_found", "_law_thread", "_law_move"]
def h_steps : List CS :=
  [.asg (.pat (.v 2)) (.lst true []),
    h_steps_l1,
    .ret (.bf .sorted false [.slot 2])]
def Fh_steps : Fn := ⟨2, 5, h_steps⟩
-- 1031
abbrev h_counts_c0 : CE := .comp false [.mk (.v 3) (.slot 1) []] [3] (.call 1001 [.slot 0, .bin .add false (.slot 2) (.lit (.int 1))] [] [.inl 0, .inl 1])
def Nh_counts : List Str := ["_law_source_here", "_law_programs_here", "_law_most", "_law_program"]
def h_counts : List CS :=
  [.ret (.bf .tuple false [h_counts_c0])]
def Fh_counts : Fn := ⟨3, 4, h_counts⟩
-- 1032
abbrev h_guarded_c0 : CE := .comp false [.mk (.v 4) (.rng [.prop (.slot 1) "locks"]) [.cmp .ne (.slot 4) (.slot 2)]] [4] (.slot 4)
def Nh_guarded : List Str := ["_law_source_here", "_law_system", "_law_first", "_law_others", "_law_lock"]
def h_guarded : List CS :=
  [.ite (.disj [.cmp .eq (.prop (.slot 1) "locks") (.lit (.int 0)), .cmp .gt (.call 1001 [.slot 0, .lit (.int 3)] [] [.inl 0, .inl 1]) (.lit (.int 0))]) [.ret (.slot 1)] [],
    .asg (.pat (.v 2)) (.call 1001 [.slot 0, .prop (.slot 1) "locks"] [] [.inl 0, .inl 1]),
    .asg (.pat (.v 3)) (h_guarded_c0),
    .ret (.call 144 [.slot 1, .bin .add false (.tup [.slot 2]) (.bf .tuple false [.cut false (.slot 3) none (some (.call 1001 [.slot 0, .lit (.int 2)] [] [.inl 0, .inl 1]))])] [] [.inl 0, .inl 1])]
def Fh_guarded : Fn := ⟨2, 5, h_guarded⟩
-- 1043
def Nh_all1 : List Str := ["_law_run"]
def h_all1 : List CS :=
  [.ret (.lst false [.meth "steps" (.slot 0) [] [] [.inl 0], .meth "states" (.slot 0) [] [] [.inl 0], .meth "shared" (.slot 0) [] [] [.inl 0], .meth "configuration" (.slot 0) [] [] [.inl 0], .meth "children" (.slot 0) [] [] [.inl 0]])]
def Fh_all1 : Fn := ⟨1, 1, h_all1⟩
-- 1098
abbrev h_moves2_c0 : CE := .comp false [.mk (.v 11) (.slot 6) [.cmp .ne (.slot 11) (.sub (.slot 8) (.lit (.int 1)))]] [11] (.slot 11)
abbrev h_moves2_c1 : CE := .comp false [.mk (.v 11) (.slot 2) [.cmp .ne (.slot 11) (.sub (.slot 8) (.lit (.int 1)))]] [11] (.slot 11)
def Nh_moves2 : List Str := ["_law_programs_here", "_law_state", "_law_locked", "_law_values", "_law_program", "_law_position", "_law_held", "_law_writing", "_law_row", "_law_ahead", "_law_later", "_law_lock"]
def h_moves2 : List CS :=
  [.asg (.pat (.t [.v 4, .v 5, .v 6, .v 7])) (.slot 1),
    .asg (.pat (.t [.v 8, .v 9])) (.tup [.sub (.sub (.slot 0) (.slot 4)) (.slot 5), .tup [.slot 4, .bin .add false (.slot 5) (.lit (.int 1)), .slot 6, .lit (.bl false)]]),
    .ite (.cmp .eq (.sub (.slot 8) (.lit (.int 0))) (.lit (.str "end"))) [.ret (.lst false [])] [],
    .ite (.cmp .inn (.sub (.slot 8) (.lit (.int 0))) (.tup [.lit (.str "acquire"), .lit (.str "try")])) [.ite (.cmp .notIn (.sub (.slot 8) (.lit (.int 1))) (.slot 2)) [.asg (.pat (.v 10)) (.tup [.slot 4, .bin .add false (.slot 5) (.lit (.int 1)), .bf .tuple false [.bf .sorted false [.bin .add false (.slot 6) (.tup [.sub (.slot 8) (.lit (.int 1))])]], .lit (.bl false)]),
    .ret (.lst false [.tup [.lit (.int 0), .slot 10, .bf .tuple false [.bf .sorted false [.bin .add false (.slot 2) (.tup [.sub (.slot 8) (.lit (.int 1))])]], .slot 3]])] [],
    .ite (.cmp .eq (.sub (.slot 8) (.lit (.int 0))) (.lit (.str "acquire"))) [.ret (.lst false [])] [],
    .ret (.lst false [.tup [.lit (.int 0), .tup [.slot 4, .sub (.slot 8) (.lit (.int 2)), .slot 6, .lit (.bl false)], .slot 2, .slot 3]])] [],
    .ite (.conj [.cmp .eq (.sub (.slot 8) (.lit (.int 0))) (.lit (.str "release")), .cmp .inn (.sub (.slot 8) (.lit (.int 1))) (.slot 6)]) [.asg (.pat (.v 10)) (.tup [.slot 4, .bin .add false (.slot 5) (.lit (.int 1)), .bf .tuple false [h_moves2_c0], .lit (.bl false)]),
    .ret (.lst false [.tup [.lit (.int 0), .slot 10, .bf .tuple false [h_moves2_c1], .slot 3]])] [],
    .ite (.conj [.cmp .eq (.sub (.slot 8) (.lit (.int 0))) (.lit (.str "write")), .not (.slot 7)]) [.ret (.lst false [.tup [.lit (.int 0), .tup [.slot 4, .slot 5, .slot 6, .lit (.bl true)], .slot 2, .call 1026 [.slot 3, .sub (.slot 8) (.lit (.int 1)), .neg (.lit (.int 1))] [] [.inl 0, .inl 1, .inl 2]]])] [],
    .ite (.cmp .eq (.sub (.slot 8) (.lit (.int 0))) (.lit (.str "write"))) [.ret (.lst false [.tup [.lit (.int 0), .slot 9, .slot 2, .call 1026 [.slot 3, .sub (.slot 8) (.lit (.int 1)), .sub (.slot 8) (.lit (.int 2))] [] [.inl 0, .inl 1, .inl 2]]])] [],
    .ite (.conj [.cmp .eq (.sub (.slot 8) (.lit (.int 0))) (.lit (.str "test")), .cmp .eq (.sub (.slot 3) (.sub (.slot 8) (.lit (.int 1)))) (.neg (.lit (.int 1)))]) [.ret (.lst false [])] [],
    .ite (.conj [.cmp .eq (.sub (.slot 8) (.lit (.int 0))) (.lit (.str "test")), .cmp .eq (.sub (.slot 3) (.sub (.slot 8) (.lit (.int 1)))) (.sub (.slot 8) (.lit (.int 2)))]) [.ret (.lst false [.tup [.lit (.int 0), .tup [.slot 4, .sub (.slot 8) (.lit (.int 3)), .slot 6, .lit (.bl false)], .slot 2, .slot 3]])] [],
    .ite (.cmp .eq (.sub (.slot 8) (.lit (.int 0))) (.lit (.str "jump"))) [.ret (.lst false [.tup [.lit (.int 0), .tup [.slot 4, .sub (.slot 8) (.lit (.int 1)), .slot 6, .lit (.bl false)], .slot 2, .slot 3]])] [],
    .ite (.cmp .eq (.sub (.slot 8) (.lit (.int 0))) (.lit (.str "choose"))) [.ret (.lst false [.tup [.lit (.int 0), .slot 9, .slot 2, .slot 3], .tup [.lit (.int 1), .tup [.slot 4, .sub (.slot 8) (.lit (.int 1)), .slot 6, .lit (.bl false)], .slot 2, .slot 3]])] [],
    .ret (.lst false [.tup [.lit (.int 0), .slot 9, .slot 2, .slot 3]])]
def Fh_moves2 : Fn := ⟨4, 12, h_moves2⟩
-- 1104
def Nh_instruction2 : List Str := ["_law_source_here", "_law_sizes", "_law_size", "_law_many", "_law_bounds", "_law_other", "_law_menu", "_law_lock", "_law_variable", "_law_value"]
def h_instruction2 : List CS :=
  [.asg (.pat (.t [.v 3, .v 4])) (.slot 1),
    .asg (.pat (.t [.v 5, .v 6])) (.tup [.call 1001 [.slot 0, .slot 2] [] [.inl 0, .inl 1], .lst false []]),
    .asg (.pat (.v 7)) (.call 1001 [.slot 0, .bf .max2 false [.lit (.int 1), .slot 3]] [] [.inl 0, .inl 1]),
    .asg (.pat (.v 8)) (.call 1001 [.slot 0, .bf .max2 false [.lit (.int 1), .bf .len false [.slot 4]]] [] [.inl 0, .inl 1]),
    .asg (.pat (.v 9)) (.ite (.cmp .gt (.bf .len false [.slot 4]) (.lit (.int 0))) (.call 1001 [.slot 0, .bin .add false (.sub (.slot 4) (.slot 8)) (.lit (.int 1))] [] [.inl 0, .inl 1]) (.lit (.int 0))),
    .ite (.cmp .gt (.slot 3) (.lit (.int 0))) [.asg (.pat (.v 6)) (.lst false [.tup [.lit (.str "acquire"), .slot 7], .tup [.lit (.str "acquire"), .slot 7], .tup [.lit (.str "release"), .slot 7], .tup [.lit (.str "release"), .slot 7], .tup [.lit (.str "try"), .slot 7, .slot 5]])] [],
    .ite (.cmp .gt (.bf .len false [.slot 4]) (.lit (.int 0))) [.asg (.pat (.v 6)) (.bin .add false (.slot 6) (.lst false [.tup [.lit (.str "write"), .slot 8, .slot 9], .tup [.lit (.str "write"), .slot 8, .slot 9], .tup [.lit (.str "test"), .slot 8, .slot 9, .slot 5]]))] [],
    .asg (.pat (.v 6)) (.bin .add false (.slot 6) (.lst false [.tup [.lit (.str "choose"), .slot 5], .tup [.lit (.str "jump"), .slot 5], .tup [.lit (.str "fork"), .slot 5], .tup [.lit (.str "fork"), .slot 5], .tup [.lit (.str "end")]])),
    .ret (.sub (.slot 6) (.call 1001 [.slot 0, .bf .len false [.slot 6]] [] [.inl 0, .inl 1]))]
def Fh_instruction2 : Fn := ⟨3, 10, h_instruction2⟩
-- 1105
abbrev h_programs1_c0 : CE := .comp false [.mk (.v 8) (.rng [.bin .sub false (.slot 6) (.lit (.int 1))]) []] [8] (.call 1104 [.slot 0, .slot 1, .slot 6] [] [.inl 0, .inl 1, .inl 2])
abbrev h_programs1_l1 : CS := .loop (.v 5) (.rng [.bin .add false (.lit (.int 1)) (.call 1001 [.slot 0, .slot 2] [] [.inl 0, .inl 1])]) [.asg (.pat (.v 6)) (.bin .add false (.lit (.int 1)) (.call 1001 [.slot 0, .slot 3] [] [.inl 0, .inl 1])),
    .asg (.pat (.v 7)) (h_programs1_c0),
    .exp (.bm .append true (.slot 4) [.bin .add false (.slot 7) (.lst false [.sub (.lst false [.tup [.lit (.str "end")], .tup [.lit (.str "jump"), .call 1001 [.slot 0, .slot 6] [] [.inl 0, .inl 1]]]) (.call 1001 [.slot 0, .lit (.int 2)] [] [.inl 0, .inl 1])])])]
def Nh_programs1 : List Str := ["_law_source_here", "_law_sizes", "_law_many", "_law_most", "_law_found", "_law_at", "_law_size", "_law_program", "_law_position"]
def h_programs1 : List CS :=
  [.asg (.pat (.v 4)) (.lst true []),
    h_programs1_l1,
    .ret (.frz (.slot 4))]
def Fh_programs1 : Fn := ⟨4, 9, h_programs1⟩
-- 1106
abbrev h_moves3_c0 : CE := .comp false [.mk (.v 11) (.slot 6) [.cmp .ne (.slot 11) (.sub (.slot 8) (.lit (.int 1)))]] [11] (.slot 11)
abbrev h_moves3_c1 : CE := .comp false [.mk (.v 11) (.slot 2) [.cmp .ne (.slot 11) (.sub (.slot 8) (.lit (.int 1)))]] [11] (.slot 11)
def Nh_moves3 : List Str := ["_law_programs_here", "_law_state", "_law_locked", "_law_values", "_law_program", "_law_position", "_law_held_here", "_law_writing", "_law_row", "_law_ahead", "_law_later", "_law_lock"]
def h_moves3 : List CS :=
  [.asg (.pat (.t [.v 4, .v 5, .v 6, .v 7])) (.slot 1),
    .asg (.pat (.t [.v 8, .v 9])) (.tup [.sub (.sub (.slot 0) (.slot 4)) (.slot 5), .tup [.slot 4, .bin .add false (.slot 5) (.lit (.int 1)), .slot 6, .lit (.bl false)]]),
    .ite (.cmp .eq (.sub (.slot 8) (.lit (.int 0))) (.lit (.str "end"))) [.ret (.lst false [])] [],
    .ite (.cmp .inn (.sub (.slot 8) (.lit (.int 0))) (.tup [.lit (.str "acquire"), .lit (.str "try")])) [.ite (.cmp .notIn (.sub (.slot 8) (.lit (.int 1))) (.slot 2)) [.asg (.pat (.v 10)) (.tup [.slot 4, .bin .add false (.slot 5) (.lit (.int 1)), .bf .tuple false [.bf .sorted false [.bin .add false (.slot 6) (.tup [.sub (.slot 8) (.lit (.int 1))])]], .lit (.bl false)]),
    .ret (.lst false [.tup [.lit (.int 0), .slot 10, .bf .tuple false [.bf .sorted false [.bin .add false (.slot 2) (.tup [.sub (.slot 8) (.lit (.int 1))])]], .slot 3]])] [],
    .ite (.cmp .eq (.sub (.slot 8) (.lit (.int 0))) (.lit (.str "acquire"))) [.ret (.lst false [])] [],
    .ret (.lst false [.tup [.lit (.int 0), .tup [.slot 4, .sub (.slot 8) (.lit (.int 2)), .slot 6, .lit (.bl false)], .slot 2, .slot 3]])] [],
    .ite (.conj [.cmp .eq (.sub (.slot 8) (.lit (.int 0))) (.lit (.str "release")), .cmp .inn (.sub (.slot 8) (.lit (.int 1))) (.slot 6)]) [.asg (.pat (.v 10)) (.tup [.slot 4, .bin .add false (.slot 5) (.lit (.int 1)), .bf .tuple false [h_moves3_c0], .lit (.bl false)]),
    .ret (.lst false [.tup [.lit (.int 0), .slot 10, .bf .tuple false [h_moves3_c1], .slot 3]])] [],
    .ite (.conj [.cmp .eq (.sub (.slot 8) (.lit (.int 0))) (.lit (.str "write")), .not (.slot 7)]) [.ret (.lst false [.tup [.lit (.int 0), .tup [.slot 4, .slot 5, .slot 6, .lit (.bl true)], .slot 2, .call 1026 [.slot 3, .sub (.slot 8) (.lit (.int 1)), .neg (.lit (.int 1))] [] [.inl 0, .inl 1, .inl 2]]])] [],
    .ite (.cmp .eq (.sub (.slot 8) (.lit (.int 0))) (.lit (.str "write"))) [.ret (.lst false [.tup [.lit (.int 0), .slot 9, .slot 2, .call 1026 [.slot 3, .sub (.slot 8) (.lit (.int 1)), .sub (.slot 8) (.lit (.int 2))] [] [.inl 0, .inl 1, .inl 2]]])] [],
    .ite (.conj [.cmp .eq (.sub (.slot 8) (.lit (.int 0))) (.lit (.str "test")), .cmp .eq (.sub (.slot 3) (.sub (.slot 8) (.lit (.int 1)))) (.neg (.lit (.int 1)))]) [.ret (.lst false [])] [],
    .ite (.conj [.cmp .eq (.sub (.slot 8) (.lit (.int 0))) (.lit (.str "test")), .cmp .eq (.sub (.slot 3) (.sub (.slot 8) (.lit (.int 1)))) (.sub (.slot 8) (.lit (.int 2)))]) [.ret (.lst false [.tup [.lit (.int 0), .tup [.slot 4, .sub (.slot 8) (.lit (.int 3)), .slot 6, .lit (.bl false)], .slot 2, .slot 3]])] [],
    .ite (.cmp .eq (.sub (.slot 8) (.lit (.int 0))) (.lit (.str "jump"))) [.ret (.lst false [.tup [.lit (.int 0), .tup [.slot 4, .sub (.slot 8) (.lit (.int 1)), .slot 6, .lit (.bl false)], .slot 2, .slot 3]])] [],
    .ite (.cmp .eq (.sub (.slot 8) (.lit (.int 0))) (.lit (.str "choose"))) [.ret (.lst false [.tup [.lit (.int 0), .slot 9, .slot 2, .slot 3], .tup [.lit (.int 1), .tup [.slot 4, .sub (.slot 8) (.lit (.int 1)), .slot 6, .lit (.bl false)], .slot 2, .slot 3]])] [],
    .ret (.lst false [.tup [.lit (.int 0), .slot 9, .slot 2, .slot 3]])]
def Fh_moves3 : Fn := ⟨4, 12, h_moves3⟩
-- 1107
def Nh_choice : List Str := ["_law_source_here", "_law_some"]
def h_choice : List CS :=
  [.ret (.sub (.slot 1) (.call 1001 [.slot 0, .bf .len false [.slot 1]] [] [.inl 0, .inl 1]))]
def Fh_choice : Fn := ⟨2, 2, h_choice⟩
-- 1108
abbrev h_all_shared1_c0 : CE := .comp false [.mk (.t [.v 3, .v 4]) (.slot 1) []] [3, 4] (.tup [.bin .add false (.slot 3) (.tup [.slot 2]), .tup []])
abbrev h_all_shared1_l1 : CS := .loop (.v 2) (.rng [.sub (.slot 0) (.lit (.int 0))]) [.asg (.pat (.v 1)) (.bin .add false (.slot 1) (h_all_shared1_c0))]
abbrev h_all_shared1_c2 : CE := .comp false [.mk (.v 8) (.rng [.neg (.lit (.int 1)), .bin .add false (.slot 5) (.lit (.int 1))]) []] [8] (.tup [.slot 3, .bin .add false (.slot 7) (.tup [.slot 8])])
abbrev h_all_shared1_l3 : CS := .loop (.t [.v 3, .v 7]) (.slot 1) [.asg (.pat (.v 6)) (.bin .add false (.slot 6) (h_all_shared1_c2))]
abbrev h_all_shared1_l4 : CS := .loop (.v 5) (.sub (.slot 0) (.lit (.int 1))) [.asg (.pat (.v 6)) (.lst false []),
    h_all_shared1_l3,
    .asg (.pat (.v 1)) (.slot 6)]
def Nh_all_shared1 : List Str := ["_law_sizes", "_law_found", "_law_lock", "_law_locked", "_law_nothing", "_law_top", "_law_more", "_law_row", "_law_value"]
def h_all_shared1 : List CS :=
  [.asg (.pat (.v 1)) (.lst false [.tup [.tup [], .tup []]]),
    h_all_shared1_l1,
    h_all_shared1_l4,
    .ret (.bf .sorted false [.slot 1])]
def Fh_all_shared1 : Fn := ⟨1, 9, h_all_shared1⟩
-- 1109
abbrev h_are_held1_c0 : CE := .comp false [.mk (.v 2) (.slot 0) []] [2] (.cmp .inn (.slot 2) (.slot 1))
def Nh_are_held1 : List Str := ["_law_held_here", "_law_locked", "_law_lock"]
def h_are_held1 : List CS :=
  [.ret (.bf .all false [h_are_held1_c0])]
def Fh_are_held1 : Fn := ⟨2, 3, h_are_held1⟩
-- 1111
abbrev h_held_l0 : CS := .loop (.v 2) (.slot 0) [.asg (.pat (.v 1)) (.bin .add false (.slot 1) (.bf .list false [.sub (.slot 2) (.lit (.int 2))]))]
def Nh_held : List Str := ["_law_threads", "_law_found", "_law_thread"]
def h_held : List CS :=
  [.asg (.pat (.v 1)) (.lst false []),
    h_held_l0,
    .ret (.slot 1)]
def Fh_held : Fn := ⟨1, 3, h_held⟩
-- 1112
abbrev h_fit_c0 : CE := .comp false [.mk (.v 2) (.slot 1) []] [2] (.cmp .eq (.bm .count false (.slot 1) [.slot 2]) (.lit (.int 1)))
def Nh_fit : List Str := ["_law_threads", "_law_held_here", "_law_lock"]
def h_fit : List CS :=
  [.asg (.pat (.v 1)) (.call 1111 [.slot 0] [] [.inl 0]),
    .ret (.bf .all false [h_fit_c0])]
def Fh_fit : Fn := ⟨1, 3, h_fit⟩
-- 1114
abbrev h_first_l0 : CS := .loop (.v 3) (.rng [.bf .len false [.slot 1]]) [.asg (.pat (.v 2)) (.bin .add false (.slot 2) (.bin .mul false (.tup [.tup [.slot 3, .lit (.int 0), .tup [], .lit (.bl false)]]) (.sub (.slot 1) (.slot 3))))]
def Nh_first : List Str := ["_law_sizes", "_law_chosen", "_law_threads", "_law_program"]
def h_first : List CS :=
  [.asg (.pat (.v 2)) (.tup []),
    h_first_l0,
    .ret (.tup [.tup [], .bin .mul false (.tup [.lit (.int 0)]) (.bf .len false [.sub (.slot 0) (.lit (.int 1))]), .slot 2])]
def Fh_first : Fn := ⟨2, 4, h_first⟩
-- 1115
def Nh_worker : List Str := ["_law_source_here", "_law_sizes", "_law_body", "_law_variable"]
def h_worker : List CS :=
  [.asg (.pat (.v 2)) (.lst true []),
    .ite (.cmp .gt (.sub (.slot 1) (.lit (.int 0))) (.lit (.int 0))) [.exp (.bm .append true (.slot 2) [.tup [.lit (.str "acquire"), .call 1001 [.slot 0, .sub (.slot 1) (.lit (.int 0))] [] [.inl 0, .inl 1]]])] [],
    .ite (.conj [.cmp .ne (.sub (.slot 1) (.lit (.int 1))) (.lst false []), .cmp .eq (.call 1001 [.slot 0, .lit (.int 2)] [] [.inl 0, .inl 1]) (.lit (.int 0))]) [.asg (.pat (.v 3)) (.call 1001 [.slot 0, .bf .len false [.sub (.slot 1) (.lit (.int 1))]] [] [.inl 0, .inl 1]),
    .exp (.bm .append true (.slot 2) [.tup [.lit (.str "write"), .slot 3, .call 1001 [.slot 0, .bin .add false (.sub (.sub (.slot 1) (.lit (.int 1))) (.slot 3)) (.lit (.int 1))] [] [.inl 0, .inl 1]]])] [],
    .ite (.conj [.cmp .gt (.sub (.slot 1) (.lit (.int 0))) (.lit (.int 0)), .cmp .gt (.call 1001 [.slot 0, .lit (.int 4)] [] [.inl 0, .inl 1]) (.lit (.int 0))]) [.exp (.bm .append true (.slot 2) [.tup [.lit (.str "release"), .sub (.sub (.slot 2) (.lit (.int 0))) (.lit (.int 1))]])] [],
    .ret (.bin .add false (.slot 2) (.lst false [.call 1107 [.slot 0, .lst false [.tup [.lit (.str "end")], .tup [.lit (.str "jump"), .lit (.int 0)]]] [] [.inl 0, .inl 1]]))]
def Fh_worker : Fn := ⟨2, 4, h_worker⟩
-- 1116
def Nh_gate : List Str := ["_law_source_here", "_law_sizes", "_law_variable", "_law_value", "_law_later"]
def h_gate : List CS :=
  [.ite (.cmp .eq (.sub (.slot 1) (.lit (.int 1))) (.lst false [])) [.ret (.lst false [.tup [.lit (.str "choose"), .lit (.int 0)], .tup [.lit (.str "end")]])] [],
    .asg (.pat (.v 2)) (.call 1001 [.slot 0, .bf .len false [.sub (.slot 1) (.lit (.int 1))]] [] [.inl 0, .inl 1]),
    .asg (.pat (.t [.v 3, .v 4])) (.tup [.call 1001 [.slot 0, .bin .add false (.sub (.sub (.slot 1) (.lit (.int 1))) (.slot 2)) (.lit (.int 1))] [] [.inl 0, .inl 1], .call 1001 [.slot 0, .bin .add false (.sub (.sub (.slot 1) (.lit (.int 1))) (.slot 2)) (.lit (.int 1))] [] [.inl 0, .inl 1]]),
    .ret (.lst false [.tup [.lit (.str "test"), .slot 2, .slot 3, .lit (.int 2)], .tup [.lit (.str "jump"), .lit (.int 0)], .tup [.lit (.str "write"), .slot 2, .slot 4], .tup [.lit (.str "end")]])]
def Fh_gate : Fn := ⟨2, 5, h_gate⟩
-- 1117
def Nh_forker : List Str := ["_law_source_here", "_law_sizes", "_law_body"]
def h_forker : List CS :=
  [.asg (.pat (.v 2)) (.lst true [.tup [.lit (.str "fork"), .lit (.int 2)], .tup [.lit (.str "end")]]),
    .ite (.cmp .gt (.sub (.slot 1) (.lit (.int 0))) (.lit (.int 0))) [.exp (.bm .append true (.slot 2) [.tup [.lit (.str "acquire"), .call 1001 [.slot 0, .sub (.slot 1) (.lit (.int 0))] [] [.inl 0, .inl 1]]])] [.ite (.cmp .ne (.sub (.slot 1) (.lit (.int 1))) (.lst false [])) [.exp (.bm .append true (.slot 2) [.tup [.lit (.str "test"), .lit (.int 0), .lit (.int 0), .lit (.int 0)]])] []],
    .ret (.bin .add false (.slot 2) (.lst false [.tup [.lit (.str "end")]]))]
def Fh_forker : Fn := ⟨2, 3, h_forker⟩
-- 1118
abbrev h_system_c0 : CE := .comp false [.mk (.v 3) (.rng [.call 1001 [.slot 0, .lit (.int 2)] [] [.inl 0, .inl 1]]) []] [3] (.bin .add false (.lit (.int 1)) (.call 1001 [.slot 0, .lit (.int 2)] [] [.inl 0, .inl 1]))
abbrev h_system_c1 : CE := .comp false [.mk (.v 3) (.rng [.bin .add false (.lit (.int 1)) (.call 1001 [.slot 0, .lit (.int 2)] [] [.inl 0, .inl 1])]) []] [3] (.call 1107 [.slot 0, .slot 4] [] [.inl 0, .inl 1])
def Nh_system : List Str := ["_law_source_here", "_law_most", "_law_sizes", "_law_turn", "_law_menu", "_law_found"]
def h_system : List CS :=
  [.asg (.pat (.v 2)) (.tup [.call 1001 [.slot 0, .lit (.int 3)] [] [.inl 0, .inl 1], h_system_c0]),
    .ite (.cmp .eq (.call 1001 [.slot 0, .lit (.int 3)] [] [.inl 0, .inl 1]) (.lit (.int 0))) [.ret (.tup [.call 1105 [.slot 0, .slot 2, .lit (.int 2), .slot 1] [] [.inl 0, .inl 1, .inl 2, .inl 3], .slot 2])] [],
    .asg (.pat (.v 4)) (.lst true [.call 1115 [.slot 0, .slot 2] [] [.inl 0, .inl 1], .call 1116 [.slot 0, .slot 2] [] [.inl 0, .inl 1], .call 1115 [.slot 0, .slot 2] [] [.inl 0, .inl 1]]),
    .exp (.bm .append true (.slot 4) [.call 1117 [.slot 0, .slot 2] [] [.inl 0, .inl 1]]),
    .asg (.pat (.v 5)) (h_system_c1),
    .ret (.tup [.slot 5, .slot 2])]
def Fh_system : Fn := ⟨2, 6, h_system⟩
-- 1126
abbrev h_pattern_c0 : CE := .comp false [.mk (.v 5) (.rng [.call 1001 [.slot 0, .bin .add false (.slot 3) (.lit (.int 1))] [] [.inl 0, .inl 1]]) []] [5] (.call 1107 [.slot 0, .slot 1] [] [.inl 0, .inl 1])
abbrev h_pattern_c1 : CE := .comp false [.mk (.v 7) (.call 1108 [.slot 2] [] [.inl 0]) [.call 1109 [.call 1111 [.slot 4] [] [.inl 0], .sub (.slot 7) (.lit (.int 0))] [] [.inl 0, .inl 1]]] [7] (.slot 7)
def Nh_pattern : List Str := ["_law_source_here", "_law_states", "_law_sizes", "_law_most", "_law_threads", "_law_turn", "_law_shared", "_law_one", "_law_locked", "_law_values", "_law_way"]
def h_pattern : List CS :=
  [.asg (.pat (.v 4)) (.bf .tuple false [.bf .sorted false [h_pattern_c0]]),
    .ite (.not (.call 1112 [.slot 4] [] [.inl 0])) [.asg (.pat (.v 4)) (.cut false (.slot 4) none (some (.lit (.int 1))))] [],
    .asg (.pat (.v 6)) (h_pattern_c1),
    .asg (.pat (.t [.v 8, .v 9])) (.call 1107 [.slot 0, .slot 6] [] [.inl 0, .inl 1]),
    .asg (.pat (.v 10)) (.call 1001 [.slot 0, .lit (.int 4)] [] [.inl 0, .inl 1]),
    .ret (.tup [.ite (.cmp .inn (.slot 10) (.tup [.lit (.int 1), .lit (.int 3)])) (.slot 8) (.lit .non), .ite (.cmp .inn (.slot 10) (.tup [.lit (.int 2), .lit (.int 3)])) (.slot 9) (.lit .non), .slot 4])]
def Fh_pattern : Fn := ⟨4, 11, h_pattern⟩
-- 1133
abbrev h_among_c0 : CE := .comp false [.mk (.v 2) (.slot 0) []] [2] (.cmp .ge (.bm .count false (.slot 1) [.slot 2]) (.bm .count false (.slot 0) [.slot 2]))
def Nh_among : List Str := ["_law_some", "_law_threads", "_law_state"]
def h_among : List CS :=
  [.ret (.bf .all false [h_among_c0])]
def Fh_among : Fn := ⟨2, 3, h_among⟩
-- 1134
def Nh_is_within : List Str := ["_law_one", "_law_other"]
def h_is_within : List CS :=
  [.ret (.conj [.cmp .eq (.sub (.slot 0) (.lit (.int 0))) (.sub (.slot 1) (.lit (.int 0))), .cmp .eq (.sub (.slot 0) (.lit (.int 1))) (.sub (.slot 1) (.lit (.int 1))), .call 1133 [.sub (.slot 0) (.lit (.int 2)), .sub (.slot 1) (.lit (.int 2))] [] [.inl 0, .inl 1]])]
def Fh_is_within : Fn := ⟨2, 2, h_is_within⟩
-- 1135
def Nh_matches : List Str := ["_law_configuration", "_law_pattern_here"]
def h_matches : List CS :=
  [.ite (.conj [.cmp .isNot (.sub (.slot 1) (.lit (.int 0))) (.lit .non), .cmp .ne (.sub (.slot 1) (.lit (.int 0))) (.sub (.slot 0) (.lit (.int 0)))]) [.ret (.lit (.bl false))] [],
    .ite (.conj [.cmp .isNot (.sub (.slot 1) (.lit (.int 1))) (.lit .non), .cmp .ne (.sub (.slot 1) (.lit (.int 1))) (.sub (.slot 0) (.lit (.int 1)))]) [.ret (.lit (.bl false))] [],
    .ret (.call 1133 [.sub (.slot 1) (.lit (.int 2)), .sub (.slot 0) (.lit (.int 2))] [] [.inl 0, .inl 1])]
def Fh_matches : Fn := ⟨2, 2, h_matches⟩
-- 1140
abbrev h_tuples_c0 : CE := .comp false [.mk (.v 4) (.rng [.slot 1]) []] [4] (.call 1001 [.slot 0, .slot 3] [] [.inl 0, .inl 1])
abbrev h_tuples_c1 : CE := .comp false [.mk (.v 5) (.rng [.call 1001 [.slot 0, .bin .add false (.slot 2) (.lit (.int 1))] [] [.inl 0, .inl 1]]) []] [5] (.bf .tuple false [h_tuples_c0])
def Nh_tuples : List Str := ["_law_source_here", "_law_width", "_law_many", "_law_most", "_law_place", "_law_turn"]
def h_tuples : List CS :=
  [.ret (h_tuples_c1)]
def Fh_tuples : Fn := ⟨4, 6, h_tuples⟩
-- 1141
abbrev h_grid_c0 : CE := .comp false [.mk (.v 6) (.rng [.slot 1]) []] [6] (.bin .add false (.slot 5) (.tup [.slot 6]))
abbrev h_grid_l1 : CS := .loop (.v 5) (.slot 2) [.asg (.pat (.v 4)) (.bin .add false (.slot 4) (h_grid_c0))]
abbrev h_grid_l2 : CS := .loop (.v 3) (.rng [.slot 0]) [.asg (.pat (.v 4)) (.lst false []),
    h_grid_l1,
    .asg (.pat (.v 2)) (.slot 4)]
def Nh_grid : List Str := ["_law_width", "_law_most", "_law_found", "_law_place", "_law_more", "_law_one", "_law_value"]
def h_grid : List CS :=
  [.asg (.pat (.v 2)) (.lst false [.tup []]),
    h_grid_l2,
    .ret (.slot 2)]
def Fh_grid : Fn := ⟨2, 7, h_grid⟩
-- 1142
abbrev h_is_over_c0 : CE := .comp false [.mk (.v 2) (.rng [.bf .len false [.slot 0]]) []] [2] (.cmp .ge (.sub (.slot 0) (.slot 2)) (.sub (.slot 1) (.slot 2)))
def Nh_is_over : List Str := ["_law_one", "_law_other", "_law_place"]
def h_is_over : List CS :=
  [.ret (.bf .all false [h_is_over_c0])]
def Fh_is_over : Fn := ⟨2, 3, h_is_over⟩
-- 1144
abbrev h_least_c0 : CE := .comp false [.mk (.v 4) (.slot 0) [.cmp .ne (.slot 4) (.slot 2)]] [4] (.slot 4)
abbrev h_least_c1 : CE := .comp false [.mk (.v 4) (.slot 3) []] [4] (.call 1142 [.slot 2, .slot 4] [] [.inl 0, .inl 1])
abbrev h_least_l2 : CS := .loop (.v 2) (.slot 0) [.asg (.pat (.v 3)) (h_least_c0),
    .ite (.conj [.cmp .notIn (.slot 2) (.slot 1), .not (.bf .any false [h_least_c1])]) [.exp (.bm .append true (.slot 1) [.slot 2])] []]
def Nh_least : List Str := ["_law_tuples_here", "_law_found", "_law_one", "_law_others", "_law_other"]
def h_least : List CS :=
  [.asg (.pat (.v 1)) (.lst true []),
    h_least_l2,
    .ret (.bf .sorted false [.slot 1])]
def Fh_least : Fn := ⟨1, 5, h_least⟩
-- 1154
abbrev h_shows2_c0 : CE := .comp false [.mk (.v 2) (.slot 1) []] [2] (.call 1135 [.slot 0, .slot 2] [] [.inl 0, .inl 1])
def Nh_shows2 : List Str := ["_law_configuration", "_law_patterns", "_law_pattern_here"]
def h_shows2 : List CS :=
  [.ret (.bf .any false [h_shows2_c0])]
def Fh_shows2 : Fn := ⟨2, 3, h_shows2⟩
-- 1155
abbrev h_states_of_l0 : CS := .loop (.v 3) (.rng [.bf .len false [.slot 0]]) [.asg (.pat (.v 2)) (.bin .add false (.slot 2) (.call 1125 [.slot 0, .slot 1, .slot 3] [] [.inl 0, .inl 1, .inl 2]))]
def Nh_states_of : List Str := ["_law_programs_here", "_law_sizes", "_law_found", "_law_program"]
def h_states_of : List CS :=
  [.asg (.pat (.v 2)) (.lst false []),
    h_states_of_l0,
    .ret (.slot 2)]
def Fh_states_of : Fn := ⟨2, 4, h_states_of⟩
-- 1156
abbrev h_some_patterns_c0 : CE := .comp false [.mk (.v 7) (.slot 4) [.cmp .inn (.sub (.sub (.sub (.slot 1) (.sub (.slot 7) (.lit (.int 0)))) (.sub (.slot 7) (.lit (.int 1)))) (.lit (.int 0))) (.tup [.lit (.str "fork"), .lit (.str "end"), .lit (.str "acquire")])]] [7] (.slot 7)
abbrev h_some_patterns_l1 : CS := .loop (.v 8) (.rng [.bin .add false (.lit (.int 1)) (.call 1001 [.slot 0, .lit (.int 3)] [] [.inl 0, .inl 1])]) [.asg (.pat (.v 9)) (.ite (.conj [.cmp .ne (.slot 6) (.lst false []), .cmp .gt (.call 1001 [.slot 0, .lit (.int 3)] [] [.inl 0, .inl 1]) (.lit (.int 0))]) (.slot 6) (.slot 4)),
    .exp (.bm .append true (.slot 5) [.call 1126 [.slot 0, .slot 9, .slot 2, .slot 3] [] [.inl 0, .inl 1, .inl 2, .inl 3]])]
def Nh_some_patterns : List Str := ["_law_source_here", "_law_programs_here", "_law_sizes", "_law_most", "_law_states", "_law_found", "_law_late", "_law_state", "_law_turn", "_law_some"]
def h_some_patterns : List CS :=
  [.asg (.pat (.t [.v 4, .v 5])) (.tup [.call 1155 [.slot 1, .slot 2] [] [.inl 0, .inl 1], .lst true []]),
    .asg (.pat (.v 6)) (h_some_patterns_c0),
    h_some_patterns_l1,
    .ret (.frz (.slot 5))]
def Fh_some_patterns : Fn := ⟨4, 10, h_some_patterns⟩
-- 1157
def Nh_made : List Str := ["_law_programs_here", "_law_sizes"]
def h_made : List CS :=
  [.ret (.mk false 9 [.slot 0] [.sub (.slot 1) (.lit (.int 0)), .sub (.slot 1) (.lit (.int 1))] [.inl 0, .inl 1, .inl 2, .inl 3])]
def Fh_made : Fn := ⟨2, 2, h_made⟩
-- 1158
abbrev h_within_level_c0 : CE := .comp false [.mk (.v 2) (.slot 1) []] [2] (.call 1134 [.slot 2, .slot 0] [] [.inl 0, .inl 1])
def Nh_within_level : List Str := ["_law_configuration", "_law_level", "_law_one"]
def h_within_level : List CS :=
  [.ret (.bf .any false [h_within_level_c0])]
def Fh_within_level : Fn := ⟨2, 3, h_within_level⟩
-- 1159
abbrev h_bags_c0 : CE := .comp false [.mk (.v 7) (.slot 0) [.disj [.cmp .eq (.slot 6) (.tup []), .cmp .ge (.slot 7) (.sub (.slot 6) (.bin .sub false (.bf .len false [.slot 6]) (.lit (.int 1))))]]] [7] (.bin .add false (.slot 6) (.tup [.slot 7]))
abbrev h_bags_l1 : CS := .loop (.v 6) (.slot 3) [.asg (.pat (.v 5)) (.bin .add false (.slot 5) (h_bags_c0))]
abbrev h_bags_c2 : CE := .comp false [.mk (.v 6) (.slot 5) [.call 1112 [.slot 6] [] [.inl 0]]] [6] (.slot 6)
abbrev h_bags_l3 : CS := .loop (.v 4) (.rng [.slot 1]) [.asg (.pat (.v 5)) (.lst false []),
    h_bags_l1,
    .asg (.pat (.v 3)) (h_bags_c2),
    .asg (.pat (.v 2)) (.bin .add false (.slot 2) (.slot 3))]
def Nh_bags : List Str := ["_law_states", "_law_most", "_law_found", "_law_last", "_law_turn", "_law_more", "_law_bag", "_law_state"]
def h_bags : List CS :=
  [.asg (.pat (.t [.v 2, .v 3])) (.tup [.lst false [.tup []], .lst false [.tup []]]),
    h_bags_l3,
    .ret (.slot 2)]
def Fh_bags : Fn := ⟨2, 8, h_bags⟩
-- 1160
abbrev h_worlds_c0 : CE := .comp false [.mk (.v 6) (.call 1108 [.slot 1] [] [.inl 0]) [.call 1109 [.slot 5, .sub (.slot 6) (.lit (.int 0))] [] [.inl 0, .inl 1]]] [6] (.bin .add false (.slot 6) (.tup [.slot 4]))
abbrev h_worlds_l1 : CS := .loop (.v 4) (.call 1159 [.slot 0, .slot 2] [] [.inl 0, .inl 1]) [.asg (.pat (.v 5)) (.call 1111 [.slot 4] [] [.inl 0]),
    .asg (.pat (.v 3)) (.bin .add false (.slot 3) (h_worlds_c0))]
def Nh_worlds : List Str := ["_law_states", "_law_sizes", "_law_most", "_law_found", "_law_bag", "_law_held_here", "_law_one"]
def h_worlds : List CS :=
  [.asg (.pat (.v 3)) (.lst false []),
    h_worlds_l1,
    .ret (.slot 3)]
def Fh_worlds : Fn := ⟨3, 7, h_worlds⟩
-- 1161
abbrev h_tiny_c0 : CE := .comp false [.mk (.v 3) (.rng [.bin .add false (.lit (.int 1)) (.call 1001 [.slot 0, .lit (.int 2)] [] [.inl 0, .inl 1])]) []] [3] (.call 1107 [.slot 0, .slot 2] [] [.inl 0, .inl 1])
def Nh_tiny : List Str := ["_law_source_here", "_law_sizes", "_law_menu", "_law_turn"]
def h_tiny : List CS :=
  [.asg (.pat (.v 1)) (.sub (.lst false [.tup [.lit (.int 1), .lst false []], .tup [.lit (.int 0), .lst false [.lit (.int 1)]], .tup [.lit (.int 1), .lst false [.lit (.int 1)]], .tup [.lit (.int 2), .lst false []], .tup [.lit (.int 0), .lst false [.lit (.int 2)]]]) (.call 1001 [.slot 0, .lit (.int 5)] [] [.inl 0, .inl 1])),
    .ite (.cmp .eq (.call 1001 [.slot 0, .lit (.int 2)] [] [.inl 0, .inl 1]) (.lit (.int 0))) [.ret (.tup [.call 1105 [.slot 0, .slot 1, .lit (.int 2), .lit (.int 3)] [] [.inl 0, .inl 1, .inl 2, .inl 3], .slot 1])] [],
    .asg (.pat (.v 2)) (.lst false [.call 1115 [.slot 0, .slot 1] [] [.inl 0, .inl 1], .call 1116 [.slot 0, .slot 1] [] [.inl 0, .inl 1], .call 1117 [.slot 0, .slot 1] [] [.inl 0, .inl 1]]),
    .ret (.tup [h_tiny_c0, .slot 1])]
def Fh_tiny : Fn := ⟨1, 4, h_tiny⟩
-- 1163
abbrev h_matching_l0 : CS := .loop (.v 6) (.call 1108 [.slot 0] [] [.inl 0]) [.ite (.conj [.cmp .inn (.slot 3) (.tup [.lit .non, .sub (.slot 6) (.lit (.int 0))]), .cmp .inn (.slot 4) (.tup [.lit .non, .sub (.slot 6) (.lit (.int 1))]), .call 1109 [.call 1111 [.slot 5] [] [.inl 0], .sub (.slot 6) (.lit (.int 0))] [] [.inl 0, .inl 1]]) [.exp (.bm .append true (.slot 2) [.bin .add false (.slot 6) (.tup [.slot 5])])] []]
abbrev h_matching_l1 : CS := .loop (.t [.v 3, .v 4, .v 5]) (.slot 1) [h_matching_l0]
abbrev h_matching_c2 : CE := .comp false [.mk (.v 9) (.slot 2) [.cmp .ne (.slot 9) (.slot 6)]] [9] (.slot 9)
abbrev h_matching_c3 : CE := .comp false [.mk (.v 9) (.slot 8) []] [9] (.call 1134 [.slot 9, .slot 6] [] [.inl 0, .inl 1])
abbrev h_matching_l4 : CS := .loop (.v 6) (.slot 2) [.asg (.pat (.v 8)) (h_matching_c2),
    .ite (.conj [.cmp .notIn (.slot 6) (.slot 7), .not (.bf .any false [h_matching_c3])]) [.exp (.bm .append true (.slot 7) [.slot 6])] []]
def Nh_matching : List Str := ["_law_sizes", "_law_patterns", "_law_found", "_law_locked", "_law_values", "_law_threads", "_law_one", "_law_least", "_law_others", "_law_other"]
def h_matching : List CS :=
  [.asg (.pat (.v 2)) (.lst true []),
    h_matching_l1,
    .asg (.pat (.v 7)) (.lst true []),
    h_matching_l4,
    .ret (.bf .sorted false [.slot 7])]
def Fh_matching : Fn := ⟨2, 10, h_matching⟩
-- 1164
abbrev h_edges_l0 : CS := .loop (.v 6) (.call 1106 [.slot 0, .slot 5, .sub (.slot 4) (.lit (.int 0)), .sub (.slot 4) (.lit (.int 1))] [] [.inl 0, .inl 1, .inl 2, .inl 3]) [.exp (.bm .append true (.slot 3) [.tup [.slot 4, .slot 5, .tup [.sub (.slot 6) (.lit (.int 2)), .sub (.slot 6) (.lit (.int 3))], .sub (.slot 6) (.lit (.int 1))]])]
abbrev h_edges_l1 : CS := .loop (.v 5) (.slot 2) [.ite (.call 1109 [.sub (.slot 5) (.lit (.int 2)), .sub (.slot 4) (.lit (.int 0))] [] [.inl 0, .inl 1]) [h_edges_l0] []]
abbrev h_edges_l2 : CS := .loop (.v 4) (.call 1108 [.slot 1] [] [.inl 0]) [h_edges_l1]
def Nh_edges : List Str := ["_law_programs_here", "_law_sizes", "_law_states", "_law_found", "_law_shared", "_law_state", "_law_move"]
def h_edges : List CS :=
  [.asg (.pat (.v 3)) (.lst true []),
    h_edges_l2,
    .ret (.frz (.slot 3))]
def Fh_edges : Fn := ⟨3, 7, h_edges⟩
-- 1165
def Nh_without : List Str := ["_law_threads", "_law_state", "_law_at"]
def h_without : List CS :=
  [.asg (.pat (.v 2)) (.bm .index false (.slot 0) [.slot 1]),
    .ret (.bin .add false (.cut false (.slot 0) none (some (.slot 2))) (.cut false (.slot 0) (some (.bin .add false (.slot 2) (.lit (.int 1)))) none))]
def Fh_without : Fn := ⟨2, 3, h_without⟩
-- 1166
abbrev h_before_l0 : CS := .loop (.t [.v 3, .v 4, .v 5, .v 6]) (.slot 0) [.ite (.cmp .eq (.slot 5) (.tup [.sub (.slot 1) (.lit (.int 0)), .sub (.slot 1) (.lit (.int 1))])) [.asg (.pat (.v 7)) (.sub (.slot 1) (.lit (.int 2))),
    .ite (.cmp .inn (.slot 6) (.slot 7)) [.asg (.pat (.v 7)) (.call 1165 [.slot 7, .slot 6] [] [.inl 0, .inl 1])] [],
    .asg (.pat (.v 8)) (.bf .tuple false [.bf .sorted false [.bin .add false (.slot 7) (.tup [.slot 4])]]),
    .ite (.conj [.call 1112 [.slot 8] [] [.inl 0], .call 1109 [.call 1111 [.slot 8] [] [.inl 0], .sub (.slot 3) (.lit (.int 0))] [] [.inl 0, .inl 1]]) [.exp (.bm .append true (.slot 2) [.bin .add false (.slot 3) (.tup [.slot 8])])] []] []]
def Nh_before : List Str := ["_law_edges_here", "_law_configuration", "_law_found", "_law_shared", "_law_state", "_law_later", "_law_after", "_law_rest", "_law_threads"]
def h_before : List CS :=
  [.asg (.pat (.v 2)) (.lst true []),
    h_before_l0,
    .ret (.frz (.slot 2))]
def Fh_before : Fn := ⟨2, 9, h_before⟩
-- 1167
def Nh_noted : List Str := ["_law_notes", "_law_programs_here", "_law_sizes", "_law_patterns"]
def h_noted : List CS :=
  [.exp (.bm .append true (.slot 0) [.tup [.slot 1, .slot 2, .slot 3]]),
    .ret (.slot 3)]
def Fh_noted : Fn := ⟨4, 4, h_noted⟩
-- 1168
abbrev h_is_great_c0 : CE := .comp false [.mk (.v 9) (.slot 4) [.not (.call 1134 [.slot 8, .slot 9] [] [.inl 0, .inl 1])]] [9] (.slot 9)
abbrev h_is_great_l1 : CS := .loop (.v 8) (.call 1166 [.slot 3, .slot 7] [] [.inl 0, .inl 1]) [.ite (.not (.call 1158 [.slot 8, .slot 4] [] [.inl 0, .inl 1])) [.asg (.pat (.v 4)) (.bin .add false (h_is_great_c0) (.lst false [.slot 8])),
    .exp (.bm .append true (.slot 5) [.slot 8])] []]
abbrev h_is_great_l2 : CS := .loop (.v 7) (.slot 6) [h_is_great_l1]
abbrev h_is_great_w3 : CS := .whl (.conj [.cmp .ne (.slot 5) (.lst false []), .cmp .lt (.bf .len false [.slot 4]) (.lit (.int 401))]) [.asg (.pat (.t [.v 6, .v 5])) (.tup [.slot 5, .lst true []]),
    h_is_great_l2]
def Nh_is_great : List Str := ["_law_programs_here", "_law_sizes", "_law_patterns", "_law_edges_here", "_law_level", "_law_fresh", "_law_later", "_law_one", "_law_early", "_law_other"]
def h_is_great : List CS :=
  [.asg (.pat (.t [.v 3, .v 4])) (.tup [.call 1164 [.slot 0, .slot 1, .call 1155 [.slot 0, .slot 1] [] [.inl 0, .inl 1]] [] [.inl 0, .inl 1, .inl 2], .call 1163 [.slot 1, .slot 2] [] [.inl 0, .inl 1]]),
    .asg (.pat (.v 5)) (.slot 4),
    h_is_great_w3,
    .ret (.cmp .gt (.bf .len false [.slot 4]) (.lit (.int 400)))]
def Fh_is_great : Fn := ⟨3, 10, h_is_great⟩
-- 1169
def Nh_is_noted : List Str := ["_law_notes", "_law_limit", "_law_programs_here", "_law_sizes", "_law_patterns"]
def h_is_noted : List CS :=
  [.asg (.pat (.t [.v 2, .v 3, .v 4])) (.sub (.slot 0) (.bin .sub false (.bf .len false [.slot 0]) (.lit (.int 1)))),
    .ret (.conj [.cmp .eq (.slot 1) (.lit (.int 400)), .call 1168 [.slot 2, .slot 3, .slot 4] [] [.inl 0, .inl 1, .inl 2]])]
def Fh_is_noted : Fn := ⟨2, 5, h_is_noted⟩
-- 1212
abbrev h_is_begun_c0 : CE := .comp false [.mk (.v 5) (.rng [.slot 2]) []] [5] (.bm .count false (.sub (.slot 1) (.lit (.int 2))) [.tup [.slot 5, .lit (.int 0), .tup [], .lit (.bl false)]])
abbrev h_is_begun_c1 : CE := .comp false [.mk (.v 5) (.rng [.slot 2]) []] [5] (.cmp .le (.sub (.slot 4) (.slot 5)) (.sub (.slot 3) (.slot 5)))
def Nh_is_begun : List Str := ["_law_sizes", "_law_configuration", "_law_width", "_law_chosen", "_law_own", "_law_program"]
def h_is_begun : List CS :=
  [.asg (.pat (.v 4)) (h_is_begun_c0),
    .ite (.cmp .ne (.slot 1) (.call 1114 [.slot 0, .slot 4] [] [.inl 0, .inl 1])) [.ret (.lit (.bl false))] [],
    .ret (.disj [.cmp .is (.slot 3) (.lit .non), .bf .all false [h_is_begun_c1]])]
def Fh_is_begun : Fn := ⟨4, 6, h_is_begun⟩
-- 1213
abbrev h_certifies_c0 : CE := .comp false [.mk (.v 6) (.call 1163 [.slot 1, .slot 2] [] [.inl 0, .inl 1]) []] [6] (.call 1158 [.slot 6, .slot 3] [] [.inl 0, .inl 1])
abbrev h_certifies_c1 : CE := .comp false [.mk (.v 7) (.call 1218 [.slot 5, .slot 6] [] [.inl 0, .inl 1]) []] [7] (.call 1158 [.slot 7, .slot 3] [] [.inl 0, .inl 1])
abbrev h_certifies_l2 : CS := .loop (.v 6) (.slot 3) [.ite (.call 1212 [.slot 1, .slot 6, .bf .len false [.slot 0], .slot 4] [] [.inl 0, .inl 1, .inl 2, .inl 3]) [.ret (.lit (.bl false))] [],
    .ite (.not (.bf .all false [h_certifies_c1])) [.ret (.lit (.bl false))] []]
def Nh_certifies : List Str := ["_law_programs_here", "_law_sizes", "_law_patterns", "_law_listed", "_law_chosen", "_law_edges_here", "_law_one", "_law_early"]
def h_certifies : List CS :=
  [.asg (.pat (.v 5)) (.call 1164 [.slot 0, .slot 1, .call 1155 [.slot 0, .slot 1] [] [.inl 0, .inl 1]] [] [.inl 0, .inl 1, .inl 2]),
    .ite (.not (.bf .all false [h_certifies_c0])) [.ret (.lit (.bl false))] [],
    h_certifies_l2,
    .ret (.lit (.bl true))]
def Fh_certifies : Fn := ⟨5, 8, h_certifies⟩
-- 1228
abbrev h_child_moves2_l0 : CS := .loop (.t [.v 8, .v 9, .v 10, .v 11]) (.call 1027 [.slot 0, .sub (.slot 1) (.lit (.int 2)), .sub (.slot 1) (.lit (.int 0)), .sub (.slot 1) (.lit (.int 1))] [] [.inl 0, .inl 1, .inl 2, .inl 3]) [.exp (.bm .append true (.slot 6) [.tup [.slot 8, .tup [.slot 10, .slot 11, .slot 9], .lit (.int 0)]])]
def Nh_child_moves2 : List Str := ["_law_programs_here", "_law_child", "_law_program", "_law_position", "_law_held", "_law_writing", "_law_found", "_law_row", "_law_way", "_law_later", "_law_locked", "_law_values"]
def h_child_moves2 : List CS :=
  [.asg (.pat (.t [.v 2, .v 3, .v 4, .v 5])) (.sub (.slot 1) (.lit (.int 2))),
    .asg (.pat (.t [.v 6, .v 7])) (.tup [.lst true [], .sub (.sub (.slot 0) (.slot 2)) (.slot 3)]),
    h_child_moves2_l0,
    .ite (.cmp .eq (.sub (.slot 7) (.lit (.int 0))) (.lit (.str "fork"))) [.exp (.bm .append true (.slot 6) [.tup [.lit (.int 1), .tup [.sub (.slot 1) (.lit (.int 0)), .sub (.slot 1) (.lit (.int 1)), .tup [.slot 2, .sub (.slot 7) (.lit (.int 1)), .slot 4, .lit (.bl false)]], .lit (.int 1)]])] [],
    .ret (.frz (.slot 6))]
def Fh_child_moves2 : Fn := ⟨2, 12, h_child_moves2⟩
-- 1229
def Nh_stuck2 : List Str := ["_law_programs_here", "_law_child", "_law_program", "_law_position", "_law_held", "_law_writing", "_law_row"]
def h_stuck2 : List CS :=
  [.asg (.pat (.t [.v 2, .v 3, .v 4, .v 5])) (.sub (.slot 1) (.lit (.int 2))),
    .asg (.pat (.v 6)) (.sub (.sub (.slot 0) (.slot 2)) (.slot 3)),
    .ite (.conj [.cmp .eq (.sub (.slot 6) (.lit (.int 0))) (.lit (.str "acquire")), .cmp .inn (.sub (.slot 6) (.lit (.int 1))) (.sub (.slot 1) (.lit (.int 0)))]) [.ret (.tup [.slot 3, .ite (.cmp .inn (.sub (.slot 6) (.lit (.int 1))) (.slot 4)) (.lit (.str "self")) (.lit (.str "orphan")), .sub (.slot 6) (.lit (.int 1))])] [],
    .ite (.conj [.cmp .eq (.sub (.slot 6) (.lit (.int 0))) (.lit (.str "test")), .cmp .eq (.sub (.sub (.slot 1) (.lit (.int 1))) (.sub (.slot 6) (.lit (.int 1)))) (.neg (.lit (.int 1)))]) [.ret (.tup [.slot 3, .lit (.str "half"), .sub (.slot 6) (.lit (.int 1))])] [],
    .ret (.lit .non)]
def Fh_stuck2 : Fn := ⟨2, 7, h_stuck2⟩
-- 1230
def Nh_forkers : List Str := ["_law_some"]
def h_forkers : List CS :=
  [.asg (.pat (.v 0)) (.lst false [.lst false [.tup [.lit (.str "fork"), .lit (.int 2)], .tup [.lit (.str "end")], .tup [.lit (.str "acquire"), .lit (.int 0)], .tup [.lit (.str "release"), .lit (.int 0)], .tup [.lit (.str "end")]]]),
    .asg (.pat (.v 0)) (.bin .add false (.slot 0) (.lst false [.lst false [.tup [.lit (.str "fork"), .lit (.int 2)], .tup [.lit (.str "jump"), .lit (.int 0)], .tup [.lit (.str "test"), .lit (.int 0), .lit (.int 1), .lit (.int 3)], .tup [.lit (.str "end")]]])),
    .asg (.pat (.v 0)) (.bin .add false (.slot 0) (.lst false [.lst false [.tup [.lit (.str "acquire"), .lit (.int 1)], .tup [.lit (.str "acquire"), .lit (.int 0)], .tup [.lit (.str "fork"), .lit (.int 4)], .tup [.lit (.str "end")], .tup [.lit (.str "release"), .lit (.int 0)], .tup [.lit (.str "jump"), .lit (.int 0)]]])),
    .asg (.pat (.v 0)) (.bin .add false (.slot 0) (.lst false [.lst false [.tup [.lit (.str "try"), .lit (.int 0), .lit (.int 3)], .tup [.lit (.str "fork"), .lit (.int 3)], .tup [.lit (.str "release"), .lit (.int 0)], .tup [.lit (.str "end")]]])),
    .asg (.pat (.v 0)) (.bin .add false (.slot 0) (.lst false [.lst false [.tup [.lit (.str "fork"), .lit (.int 2)], .tup [.lit (.str "end")], .tup [.lit (.str "fork"), .lit (.int 4)], .tup [.lit (.str "end")], .tup [.lit (.str "acquire"), .lit (.int 1)], .tup [.lit (.str "end")]]])),
    .asg (.pat (.v 0)) (.bin .add false (.slot 0) (.lst false [.lst false [.tup [.lit (.str "choose"), .lit (.int 3)], .tup [.lit (.str "acquire"), .lit (.int 0)], .tup [.lit (.str "end")], .tup [.lit (.str "fork"), .lit (.int 1)], .tup [.lit (.str "jump"), .lit (.int 0)]]])),
    .asg (.pat (.v 0)) (.bin .add false (.slot 0) (.lst false [.lst false [.tup [.lit (.str "acquire"), .lit (.int 0)], .tup [.lit (.str "fork"), .lit (.int 3)], .tup [.lit (.str "jump"), .lit (.int 4)], .tup [.lit (.str "acquire"), .lit (.int 1)], .tup [.lit (.str "release"), .lit (.int 0)], .tup [.lit (.str "end")]]])),
    .ret (.bin .add false (.slot 0) (.lst false [.lst false [.tup [.lit (.str "fork"), .lit (.int 2)], .tup [.lit (.str "jump"), .lit (.int 0)], .tup [.lit (.str "acquire"), .lit (.int 1)], .tup [.lit (.str "acquire"), .lit (.int 0)], .tup [.lit (.str "test"), .lit (.int 0), .lit (.int 0), .lit (.int 5)], .tup [.lit (.str "end")]]]))]
def Fh_forkers : Fn := ⟨0, 1, h_forkers⟩
-- 1231
def Nh_bystanders : List Str := ["_law_some"]
def h_bystanders : List CS :=
  [.asg (.pat (.v 0)) (.lst false [.lst false [.tup [.lit (.str "acquire"), .lit (.int 0)], .tup [.lit (.str "write"), .lit (.int 0), .lit (.int 1)], .tup [.lit (.str "release"), .lit (.int 0)], .tup [.lit (.str "jump"), .lit (.int 0)]], .lst false [.tup [.lit (.str "write"), .lit (.int 0), .lit (.int 1)], .tup [.lit (.str "jump"), .lit (.int 0)]]]),
    .asg (.pat (.v 0)) (.bin .add false (.slot 0) (.lst false [.lst false [.tup [.lit (.str "acquire"), .lit (.int 0)], .tup [.lit (.str "acquire"), .lit (.int 1)], .tup [.lit (.str "release"), .lit (.int 1)], .tup [.lit (.str "release"), .lit (.int 0)], .tup [.lit (.str "end")]]])),
    .asg (.pat (.v 0)) (.bin .add false (.slot 0) (.lst false [.lst false [.tup [.lit (.str "acquire"), .lit (.int 1)], .tup [.lit (.str "acquire"), .lit (.int 0)], .tup [.lit (.str "release"), .lit (.int 0)], .tup [.lit (.str "release"), .lit (.int 1)], .tup [.lit (.str "jump"), .lit (.int 0)]]])),
    .asg (.pat (.v 0)) (.bin .add false (.slot 0) (.lst false [.lst false [.tup [.lit (.str "test"), .lit (.int 0), .lit (.int 1), .lit (.int 3)], .tup [.lit (.str "write"), .lit (.int 0), .lit (.int 1)], .tup [.lit (.str "end")], .tup [.lit (.str "acquire"), .lit (.int 0)], .tup [.lit (.str "end")]]])),
    .ret (.bin .add false (.slot 0) (.lst false [.lst false [.tup [.lit (.str "acquire"), .lit (.int 1)], .tup [.lit (.str "end")]], .lst false [.tup [.lit (.str "acquire"), .lit (.int 0)], .tup [.lit (.str "jump"), .lit (.int 1)]]]))]
def Fh_bystanders : Fn := ⟨0, 1, h_bystanders⟩
-- 1232
def Nh_bent4 : List Str := ["_law_source_here", "_law_program", "_law_size", "_law_at"]
def h_bent4 : List CS :=
  [.asg (.pat (.v 2)) (.bf .len false [.slot 1]),
    .ite (.cmp .gt (.call 1001 [.slot 0, .lit (.int 3)] [] [.inl 0, .inl 1]) (.lit (.int 0))) [.ret (.slot 1)] [],
    .asg (.pat (.v 3)) (.call 1001 [.slot 0, .bin .sub false (.slot 2) (.lit (.int 1))] [] [.inl 0, .inl 1]),
    .ret (.bin .add false (.bin .add false (.cut false (.slot 1) none (some (.slot 3))) (.lst false [.call 1104 [.slot 0, .tup [.lit (.int 2), .lst false [.lit (.int 1)]], .slot 2] [] [.inl 0, .inl 1, .inl 2]])) (.cut false (.slot 1) (some (.bin .add false (.slot 3) (.lit (.int 1)))) none))]
def Fh_bent4 : Fn := ⟨2, 4, h_bent4⟩
-- 1233
abbrev h_drafted_c0 : CE := .comp false [.mk (.v 6) (.slot 3) []] [6] (.bf .len false [.slot 6])
abbrev h_drafted_l1 : CS := .loop (.v 4) (.rng [.bf .min2 false [.bin .sub false (.slot 1) (.lit (.int 1)), .call 1001 [.slot 0, .lit (.int 4)] [] [.inl 0, .inl 1]]]) [.asg (.pat (.v 2)) (.call 1231 [] [] []),
    .asg (.pat (.v 5)) (.call 1232 [.slot 0, .sub (.slot 2) (.call 1001 [.slot 0, .bf .len false [.slot 2]] [] [.inl 0, .inl 1])] [] [.inl 0, .inl 1]),
    .ite (.cmp .lt (.bin .add false (.bf .sum false [h_drafted_c0]) (.bf .len false [.slot 5])) (.lit (.int 13))) [.exp (.bm .append true (.slot 3) [.slot 5])] []]
def Nh_drafted : List Str := ["_law_source_here", "_law_many", "_law_menu", "_law_found", "_law_turn", "_law_program", "_law_one"]
def h_drafted : List CS :=
  [.asg (.pat (.v 2)) (.call 1230 [] [] []),
    .asg (.pat (.v 3)) (.lst true [.call 1232 [.slot 0, .sub (.slot 2) (.call 1001 [.slot 0, .bf .len false [.slot 2]] [] [.inl 0, .inl 1])] [] [.inl 0, .inl 1]]),
    h_drafted_l1,
    .ret (.ite (.cmp .eq (.call 1001 [.slot 0, .lit (.int 2)] [] [.inl 0, .inl 1]) (.lit (.int 0))) (.rev false (.slot 3)) (.slot 3))]
def Fh_drafted : Fn := ⟨2, 7, h_drafted⟩
-- 1234
def Nh_case1 : List Str := ["_law_source_here", "_law_many", "_law_most", "_law_sizes"]
def h_case1 : List CS :=
  [.ite (.cmp .gt (.call 1001 [.slot 0, .lit (.int 5)] [] [.inl 0, .inl 1]) (.lit (.int 0))) [.ret (.tup [.tup [.lit (.int 2), .lst false [.lit (.int 1)]], .call 1233 [.slot 0, .slot 1] [] [.inl 0, .inl 1]])] [],
    .asg (.pat (.v 3)) (.sub (.lst false [.tup [.lit (.int 2), .lst false [.lit (.int 1)]], .tup [.lit (.int 2), .lst false [.lit (.int 2)]], .tup [.lit (.int 1), .lst false [.lit (.int 1), .lit (.int 2)]], .tup [.lit (.int 0), .lst false [.lit (.int 2), .lit (.int 1)]], .tup [.lit (.int 2), .lst false []], .tup [.lit (.int 1), .lst false [.lit (.int 1)]]]) (.call 1001 [.slot 0, .lit (.int 6)] [] [.inl 0, .inl 1])),
    .ret (.tup [.slot 3, .call 1105 [.slot 0, .slot 3, .slot 1, .slot 2] [] [.inl 0, .inl 1, .inl 2, .inl 3]])]
def Fh_case1 : Fn := ⟨3, 4, h_case1⟩
-- 1235
def Nh_made1 : List Str := ["_law_case_here"]
def h_made1 : List CS :=
  [.ret (.mk false 9 [.sub (.slot 0) (.lit (.int 1))] [.sub (.sub (.slot 0) (.lit (.int 0))) (.lit (.int 0)), .sub (.sub (.slot 0) (.lit (.int 0))) (.lit (.int 1))] [.inl 0, .inl 1, .inl 2, .inl 3])]
def Fh_made1 : Fn := ⟨1, 1, h_made1⟩
-- 1237
def Nh_child_of : List Str := ["_law_programs_here", "_law_locked", "_law_values", "_law_state", "_law_program", "_law_position", "_law_held", "_law_writing"]
def h_child_of : List CS :=
  [.asg (.pat (.t [.v 4, .v 5, .v 6, .v 7])) (.slot 3),
    .ret (.tup [.slot 1, .slot 2, .tup [.slot 4, .sub (.sub (.sub (.slot 0) (.slot 4)) (.slot 5)) (.lit (.int 1)), .slot 6, .lit (.bl false)]])]
def Fh_child_of : Fn := ⟨4, 8, h_child_of⟩
-- 1238
abbrev h_shared_c0 : CE := .comp false [.mk (.v 5) (.rng [.neg (.lit (.int 1)), .bin .add false (.slot 2) (.lit (.int 1))]) []] [5] (.bin .add false (.slot 4) (.tup [.slot 5]))
abbrev h_shared_l1 : CS := .loop (.v 4) (.slot 1) [.asg (.pat (.v 3)) (.bin .add false (.slot 3) (h_shared_c0))]
abbrev h_shared_l2 : CS := .loop (.v 2) (.sub (.slot 0) (.lit (.int 1))) [.asg (.pat (.v 3)) (.lst false []),
    h_shared_l1,
    .asg (.pat (.v 1)) (.slot 3)]
abbrev h_shared_c3 : CE := .comp false [.mk (.v 4) (.slot 1) []] [4] (.tup [.tup [], .slot 4])
abbrev h_shared_c4 : CE := .comp false [.mk (.t [.v 8, .v 4]) (.slot 6) []] [8, 4] (.tup [.bin .add false (.slot 8) (.tup [.slot 7]), .slot 4])
abbrev h_shared_l5 : CS := .loop (.v 7) (.rng [.sub (.slot 0) (.lit (.int 0))]) [.asg (.pat (.v 6)) (.bin .add false (.slot 6) (h_shared_c4))]
def Nh_shared : List Str := ["_law_sizes", "_law_rows", "_law_top", "_law_longer", "_law_row", "_law_value", "_law_found", "_law_lock", "_law_locked"]
def h_shared : List CS :=
  [.asg (.pat (.v 1)) (.lst false [.tup []]),
    h_shared_l2,
    .asg (.pat (.v 6)) (h_shared_c3),
    h_shared_l5,
    .ret (.slot 6)]
def Fh_shared : Fn := ⟨1, 9, h_shared⟩
-- 1239
abbrev h_are_locked_c0 : CE := .comp false [.mk (.v 2) (.slot 0) []] [2] (.cmp .inn (.slot 2) (.slot 1))
def Nh_are_locked : List Str := ["_law_held", "_law_locked", "_law_lock"]
def h_are_locked : List CS :=
  [.ret (.bf .all false [h_are_locked_c0])]
def Fh_are_locked : Fn := ⟨2, 3, h_are_locked⟩
-- 1241
abbrev h_any_child_c0 : CE := .comp false [.mk (.v 8) (.sub (.slot 5) (.lit (.int 0))) [.cmp .eq (.call 1001 [.slot 0, .lit (.int 2)] [] [.inl 0, .inl 1]) (.lit (.int 0))]] [8] (.slot 8)
def Nh_any_child : List Str := ["_law_source_here", "_law_programs_here", "_law_sizes", "_law_shared_here", "_law_program", "_law_one", "_law_position", "_law_held", "_law_lock", "_law_is_writing"]
def h_any_child : List CS :=
  [.asg (.pat (.t [.v 3, .v 4])) (.tup [.call 1238 [.slot 2] [] [.inl 0], .call 1001 [.slot 0, .bf .len false [.slot 1]] [] [.inl 0, .inl 1]]),
    .asg (.pat (.t [.v 5, .v 6])) (.tup [.sub (.slot 3) (.call 1001 [.slot 0, .bf .len false [.slot 3]] [] [.inl 0, .inl 1]), .call 1001 [.slot 0, .bf .len false [.sub (.slot 1) (.slot 4)]] [] [.inl 0, .inl 1]]),
    .asg (.pat (.v 7)) (.bf .tuple false [h_any_child_c0]),
    .asg (.pat (.v 9)) (.conj [.cmp .eq (.sub (.sub (.sub (.slot 1) (.slot 4)) (.slot 6)) (.lit (.int 0))) (.lit (.str "write")), .cmp .eq (.call 1001 [.slot 0, .lit (.int 2)] [] [.inl 0, .inl 1]) (.lit (.int 0))]),
    .ret (.tup [.sub (.slot 5) (.lit (.int 0)), .sub (.slot 5) (.lit (.int 1)), .tup [.slot 4, .slot 6, .slot 7, .slot 9]])]
def Fh_any_child : Fn := ⟨3, 10, h_any_child⟩
-- 1242
abbrev h_some_child_c0 : CE := .comp false [.mk (.v 7) (.call 1238 [.slot 2] [] [.inl 0]) [.call 1239 [.sub (.slot 5) (.lit (.int 2)), .sub (.slot 7) (.lit (.int 0))] [] [.inl 0, .inl 1]]] [7] (.slot 7)
def Nh_some_child : List Str := ["_law_source_here", "_law_programs_here", "_law_sizes", "_law_program", "_law_states_here", "_law_state", "_law_shared_here", "_law_one"]
def h_some_child : List CS :=
  [.ite (.cmp .eq (.call 1001 [.slot 0, .lit (.int 3)] [] [.inl 0, .inl 1]) (.lit (.int 0))) [.ret (.call 1241 [.slot 0, .slot 1, .slot 2] [] [.inl 0, .inl 1, .inl 2])] [],
    .asg (.pat (.v 3)) (.call 1001 [.slot 0, .bf .len false [.slot 1]] [] [.inl 0, .inl 1]),
    .asg (.pat (.v 4)) (.call 1240 [.slot 1, .slot 2, .slot 3] [] [.inl 0, .inl 1, .inl 2]),
    .asg (.pat (.v 5)) (.sub (.slot 4) (.call 1001 [.slot 0, .bf .len false [.slot 4]] [] [.inl 0, .inl 1])),
    .asg (.pat (.v 6)) (h_some_child_c0),
    .asg (.pat (.v 7)) (.sub (.slot 6) (.call 1001 [.slot 0, .bf .len false [.slot 6]] [] [.inl 0, .inl 1])),
    .ite (.conj [.cmp .eq (.sub (.sub (.sub (.slot 1) (.slot 3)) (.sub (.slot 5) (.lit (.int 1)))) (.lit (.int 0))) (.lit (.str "fork")), .cmp .gt (.call 1001 [.slot 0, .lit (.int 3)] [] [.inl 0, .inl 1]) (.lit (.int 0))]) [.ret (.call 1237 [.slot 1, .sub (.slot 7) (.lit (.int 0)), .sub (.slot 7) (.lit (.int 1)), .slot 5] [] [.inl 0, .inl 1, .inl 2, .inl 3])] [],
    .ret (.tup [.sub (.slot 7) (.lit (.int 0)), .sub (.slot 7) (.lit (.int 1)), .slot 5])]
def Fh_some_child : Fn := ⟨3, 8, h_some_child⟩
-- 1246
abbrev h_walked_c0 : CE := .comp false [.mk (.v 5) (.call 1228 [.slot 0, .slot 1] [] [.inl 0, .inl 1]) [.cmp .eq (.sub (.slot 5) (.lit (.int 0))) (.slot 3)]] [5] (.sub (.slot 5) (.lit (.int 1)))
abbrev h_walked_l1 : CS := .loop (.v 3) (.slot 2) [.asg (.pat (.v 4)) (h_walked_c0),
    .ite (.cmp .ne (.bf .len false [.slot 4]) (.lit (.int 1))) [.ret (.lit .non)] [],
    .asg (.pat (.v 1)) (.sub (.slot 4) (.lit (.int 0)))]
def Nh_walked : List Str := ["_law_programs_here", "_law_child", "_law_ways", "_law_way", "_law_some", "_law_move"]
def h_walked : List CS :=
  [h_walked_l1,
    .ret (.slot 1)]
def Fh_walked : Fn := ⟨3, 6, h_walked⟩
-- 1282
abbrev h_initial_l0 : CS := .loop (.v 3) (.rng [.bf .len false [.slot 1]]) [.asg (.pat (.v 2)) (.bin .add false (.slot 2) (.bin .mul false (.lst false [.tup [.slot 3, .lit (.int 0), .tup [], .lit (.bl false)]]) (.sub (.slot 1) (.slot 3))))]
def Nh_initial : List Str := ["_law_sizes", "_law_counts", "_law_states", "_law_program"]
def h_initial : List CS :=
  [.asg (.pat (.v 2)) (.lst false []),
    h_initial_l0,
    .ret (.tup [.tup [], .bin .mul false (.tup [.lit (.int 0)]) (.bf .len false [.sub (.slot 0) (.lit (.int 1))]), .bf .tuple false [.slot 2]])]
def Fh_initial : Fn := ⟨2, 4, h_initial⟩
-- 1283
abbrev h_behind_l0 : CS := .loop (.t [.v 6, .v 7, .v 8, .v 9]) (.call 1027 [.slot 0, .sub (.slot 3) (.slot 4), .sub (.slot 1) (.lit (.int 0)), .sub (.slot 1) (.lit (.int 1))] [] [.inl 0, .inl 1, .inl 2, .inl 3]) [.exp (.bm .append true (.slot 2) [.tup [.slot 8, .slot 9, .bf .tuple false [.bf .sorted false [.bin .add false (.slot 5) (.tup [.slot 7])]]]])]
abbrev h_behind_l1 : CS := .loop (.v 4) (.rng [.bf .len false [.slot 3]]) [.asg (.pat (.v 5)) (.bin .add false (.cut false (.slot 3) none (some (.slot 4))) (.cut false (.slot 3) (some (.bin .add false (.slot 4) (.lit (.int 1)))) none)),
    h_behind_l0]
def Nh_behind : List Str := ["_law_programs_here", "_law_world", "_law_found", "_law_threads", "_law_k", "_law_rest", "_law_way", "_law_later", "_law_locked", "_law_values"]
def h_behind : List CS :=
  [.asg (.pat (.t [.v 2, .v 3])) (.tup [.lst true [], .sub (.slot 1) (.lit (.int 2))]),
    h_behind_l1,
    .ret (.frz (.slot 2))]
def Fh_behind : Fn := ⟨2, 10, h_behind⟩
-- 1286
abbrev h_some_counts_c0 : CE := .comp false [.mk (.v 5) (.rng [.lit (.int 3)]) [.cmp .lt (.bin .add false (.bf .sum false [.slot 4]) (.slot 5)) (.lit (.int 4))]] [5] (.bin .add false (.slot 4) (.tup [.slot 5]))
abbrev h_some_counts_l1 : CS := .loop (.v 4) (.slot 1) [.asg (.pat (.v 3)) (.bin .add false (.slot 3) (h_some_counts_c0))]
abbrev h_some_counts_l2 : CS := .loop (.v 2) (.rng [.slot 0]) [.asg (.pat (.v 3)) (.lst false []),
    h_some_counts_l1,
    .asg (.pat (.v 1)) (.slot 3)]
def Nh_some_counts : List Str := ["_law_many", "_law_found", "_law_program", "_law_longer", "_law_one", "_law_size"]
def h_some_counts : List CS :=
  [.asg (.pat (.v 1)) (.lst false [.tup []]),
    h_some_counts_l2,
    .ret (.slot 1)]
def Fh_some_counts : Fn := ⟨1, 6, h_some_counts⟩
-- 1287
def Nh_occurring : List Str := ["_law_case_here", "_law_counts", "_law_worlds"]
def h_occurring : List CS :=
  [.asg (.pat (.v 2)) (.call 1284 [.sub (.slot 0) (.lit (.int 1)), .call 1290 [.sub (.slot 0) (.lit (.int 0)), .slot 1] [] [.inl 0, .inl 1], .lit (.int 2500)] [] [.inl 0, .inl 1, .inl 2]),
    .ret (.ite (.cmp .is (.slot 2) (.lit .non)) (.lit .non) (.call 1285 [.sub (.slot 0) (.lit (.int 1)), .slot 2] [] [.inl 0, .inl 1]))]
def Fh_occurring : Fn := ⟨2, 3, h_occurring⟩
-- 1290
abbrev h_initial1_l0 : CS := .loop (.v 3) (.rng [.bf .len false [.slot 1]]) [.asg (.pat (.v 2)) (.bin .add false (.slot 2) (.bin .mul false (.lst false [.tup [.slot 3, .lit (.int 0), .tup [], .lit (.bl false)]]) (.sub (.slot 1) (.slot 3))))]
def Nh_initial1 : List Str := ["_law_sizes", "_law_counts", "_law_states_here", "_law_program"]
def h_initial1 : List CS :=
  [.asg (.pat (.v 2)) (.lst false []),
    h_initial1_l0,
    .ret (.tup [.tup [], .bin .mul false (.tup [.lit (.int 0)]) (.bf .len false [.sub (.slot 0) (.lit (.int 1))]), .bf .tuple false [.slot 2]])]
def Fh_initial1 : Fn := ⟨2, 4, h_initial1⟩
-- 1294
abbrev h_fits_in_c0 : CE := .comp false [.mk (.v 2) (.slot 0) []] [2] (.cmp .le (.bm .count false (.slot 0) [.slot 2]) (.bm .count false (.slot 1) [.slot 2]))
def Nh_fits_in : List Str := ["_law_some", "_law_threads", "_law_state"]
def h_fits_in : List CS :=
  [.ret (.bf .all false [h_fits_in_c0])]
def Fh_fits_in : Fn := ⟨2, 3, h_fits_in⟩
-- 1295
abbrev h_covered_c0 : CE := .comp false [.mk (.v 3) (.slot 0) [.conj [.cmp .eq (.sub (.slot 3) (.lit (.int 0))) (.sub (.slot 1) (.lit (.int 0))), .cmp .eq (.sub (.slot 3) (.lit (.int 1))) (.sub (.slot 1) (.lit (.int 1)))]]] [3] (.slot 3)
abbrev h_covered_c1 : CE := .comp false [.mk (.v 3) (.slot 2) []] [3] (.call 1294 [.sub (.slot 3) (.lit (.int 2)), .sub (.slot 1) (.lit (.int 2))] [] [.inl 0, .inl 1])
def Nh_covered : List Str := ["_law_listed", "_law_world", "_law_some", "_law_one"]
def h_covered : List CS :=
  [.asg (.pat (.v 2)) (h_covered_c0),
    .ret (.bf .any false [h_covered_c1])]
def Fh_covered : Fn := ⟨2, 4, h_covered⟩
-- 1321
def Nh_wanted : List Str := ["_law_programs_here", "_law_state", "_law_row"]
def h_wanted : List CS :=
  [.asg (.pat (.v 2)) (.sub (.sub (.slot 0) (.sub (.slot 1) (.lit (.int 0)))) (.sub (.slot 1) (.lit (.int 1)))),
    .ret (.ite (.cmp .eq (.sub (.slot 2) (.lit (.int 0))) (.lit (.str "acquire"))) (.sub (.slot 2) (.lit (.int 1))) (.lit .non))]
def Fh_wanted : Fn := ⟨2, 3, h_wanted⟩
-- 1322
abbrev h_is_blocked_c0 : CE := .comp false [.mk (.v 6) (.rng [.bf .len false [.slot 1]]) [.cmp .inn (.slot 4) (.sub (.sub (.slot 1) (.slot 6)) (.lit (.int 2)))]] [6] (.slot 6)
abbrev h_is_blocked_w1 : CS := .whl (.cmp .notIn (.slot 2) (.slot 3)) [.exp (.bm .append true (.slot 3) [.slot 2]),
    .asg (.pat (.v 4)) (.call 1321 [.slot 0, .sub (.slot 1) (.slot 2)] [] [.inl 0, .inl 1]),
    .ite (.cmp .is (.slot 4) (.lit .non)) [.ret (.conj [.cmp .gt (.bf .len false [.slot 3]) (.lit (.int 1)), .cmp .eq (.sub (.sub (.sub (.slot 0) (.sub (.sub (.slot 1) (.slot 2)) (.lit (.int 0)))) (.sub (.sub (.slot 1) (.slot 2)) (.lit (.int 1)))) (.lit (.int 0))) (.lit (.str "end"))])] [],
    .asg (.pat (.v 5)) (h_is_blocked_c0),
    .ite (.cmp .eq (.slot 5) (.lst false [])) [.ret (.lit (.bl false))] [],
    .asg (.pat (.v 2)) (.sub (.slot 5) (.lit (.int 0)))]
def Nh_is_blocked : List Str := ["_law_programs_here", "_law_threads", "_law_k", "_law_seen", "_law_wanted_here", "_law_owners", "_law_j"]
def h_is_blocked : List CS :=
  [.asg (.pat (.v 3)) (.lst true []),
    h_is_blocked_w1,
    .ret (.lit (.bl true))]
def Fh_is_blocked : Fn := ⟨3, 7, h_is_blocked⟩
-- 1347
abbrev h_guards_c0 : CE := .comp false [.mk (.v 6) (.rng [.slot 0]) [.cmp .notIn (.slot 6) (.slot 5)]] [6] (.bin .add false (.slot 5) (.tup [.slot 6]))
abbrev h_guards_l1 : CS := .loop (.v 5) (.slot 2) [.asg (.pat (.v 4)) (.bin .add false (.slot 4) (h_guards_c0))]
abbrev h_guards_l2 : CS := .loop (.v 3) (.rng [.slot 0]) [.asg (.pat (.v 4)) (.lst false []),
    h_guards_l1,
    .asg (.pat (.t [.v 1, .v 2])) (.tup [.bin .add false (.slot 1) (.slot 4), .slot 4])]
def Nh_guards : List Str := ["_law_many", "_law_found", "_law_rows", "_law_turn", "_law_longer", "_law_row", "_law_lock"]
def h_guards : List CS :=
  [.asg (.pat (.t [.v 1, .v 2])) (.tup [.lst false [.tup []], .lst false [.tup []]]),
    h_guards_l2,
    .ret (.slot 1)]
def Fh_guards : Fn := ⟨1, 7, h_guards⟩
-- 1350
abbrev h_moves5_c0 : CE := .comp false [.mk (.v 11) (.slot 6) [.cmp .ne (.slot 11) (.sub (.slot 8) (.lit (.int 1)))]] [11] (.slot 11)
abbrev h_moves5_c1 : CE := .comp false [.mk (.v 11) (.slot 2) [.cmp .ne (.slot 11) (.sub (.slot 8) (.lit (.int 1)))]] [11] (.slot 11)
def Nh_moves5 : List Str := ["_law_programs", "_law_state", "_law_locked", "_law_values", "_law_program", "_law_position", "_law_held", "_law_writing", "_law_row", "_law_ahead", "_law_later", "_law_lock"]
def h_moves5 : List CS :=
  [.asg (.pat (.t [.v 4, .v 5, .v 6, .v 7])) (.slot 1),
    .asg (.pat (.v 8)) (.sub (.sub (.slot 0) (.slot 4)) (.slot 5)),
    .asg (.pat (.v 9)) (.tup [.slot 4, .bin .add false (.slot 5) (.lit (.int 1)), .slot 6, .lit (.bl false)]),
    .ite (.cmp .eq (.sub (.slot 8) (.lit (.int 0))) (.lit (.str "end"))) [.ret (.lst false [])] [],
    .ite (.cmp .inn (.sub (.slot 8) (.lit (.int 0))) (.tup [.lit (.str "acquire"), .lit (.str "try")])) [.ite (.cmp .notIn (.sub (.slot 8) (.lit (.int 1))) (.slot 2)) [.asg (.pat (.v 10)) (.tup [.slot 4, .bin .add false (.slot 5) (.lit (.int 1)), .bf .tuple false [.bf .sorted false [.bin .add false (.slot 6) (.tup [.sub (.slot 8) (.lit (.int 1))])]], .lit (.bl false)]),
    .ret (.lst false [.tup [.lit (.int 0), .slot 10, .bf .tuple false [.bf .sorted false [.bin .add false (.slot 2) (.tup [.sub (.slot 8) (.lit (.int 1))])]], .slot 3]])] [],
    .ite (.cmp .eq (.sub (.slot 8) (.lit (.int 0))) (.lit (.str "acquire"))) [.ret (.lst false [])] [],
    .ret (.lst false [.tup [.lit (.int 0), .tup [.slot 4, .sub (.slot 8) (.lit (.int 2)), .slot 6, .lit (.bl false)], .slot 2, .slot 3]])] [],
    .ite (.conj [.cmp .eq (.sub (.slot 8) (.lit (.int 0))) (.lit (.str "release")), .cmp .inn (.sub (.slot 8) (.lit (.int 1))) (.slot 6)]) [.asg (.pat (.v 10)) (.tup [.slot 4, .bin .add false (.slot 5) (.lit (.int 1)), .bf .tuple false [h_moves5_c0], .lit (.bl false)]),
    .ret (.lst false [.tup [.lit (.int 0), .slot 10, .bf .tuple false [h_moves5_c1], .slot 3]])] [],
    .ite (.conj [.cmp .eq (.sub (.slot 8) (.lit (.int 0))) (.lit (.str "write")), .not (.slot 7)]) [.ret (.lst false [.tup [.lit (.int 0), .tup [.slot 4, .slot 5, .slot 6, .lit (.bl true)], .slot 2, .call 1026 [.slot 3, .sub (.slot 8) (.lit (.int 1)), .neg (.lit (.int 1))] [] [.inl 0, .inl 1, .inl 2]]])] [],
    .ite (.cmp .eq (.sub (.slot 8) (.lit (.int 0))) (.lit (.str "write"))) [.ret (.lst false [.tup [.lit (.int 0), .slot 9, .slot 2, .call 1026 [.slot 3, .sub (.slot 8) (.lit (.int 1)), .sub (.slot 8) (.lit (.int 2))] [] [.inl 0, .inl 1, .inl 2]]])] [],
    .ite (.conj [.cmp .eq (.sub (.slot 8) (.lit (.int 0))) (.lit (.str "test")), .cmp .eq (.sub (.slot 3) (.sub (.slot 8) (.lit (.int 1)))) (.neg (.lit (.int 1)))]) [.ret (.lst false [])] [],
    .ite (.conj [.cmp .eq (.sub (.slot 8) (.lit (.int 0))) (.lit (.str "test")), .cmp .eq (.sub (.slot 3) (.sub (.slot 8) (.lit (.int 1)))) (.sub (.slot 8) (.lit (.int 2)))]) [.ret (.lst false [.tup [.lit (.int 0), .tup [.slot 4, .sub (.slot 8) (.lit (.int 3)), .slot 6, .lit (.bl false)], .slot 2, .slot 3]])] [],
    .ite (.cmp .eq (.sub (.slot 8) (.lit (.int 0))) (.lit (.str "jump"))) [.ret (.lst false [.tup [.lit (.int 0), .tup [.slot 4, .sub (.slot 8) (.lit (.int 1)), .slot 6, .lit (.bl false)], .slot 2, .slot 3]])] [],
    .ite (.cmp .eq (.sub (.slot 8) (.lit (.int 0))) (.lit (.str "choose"))) [.ret (.lst false [.tup [.lit (.int 0), .slot 9, .slot 2, .slot 3], .tup [.lit (.int 1), .tup [.slot 4, .sub (.slot 8) (.lit (.int 1)), .slot 6, .lit (.bl false)], .slot 2, .slot 3]])] [],
    .ret (.lst false [.tup [.lit (.int 0), .slot 9, .slot 2, .slot 3]])]
def Fh_moves5 : Fn := ⟨4, 12, h_moves5⟩
-- 1351
abbrev h_begun4_l0 : CS := .loop (.v 4) (.rng [.bf .len false [.slot 0]]) [.asg (.pat (.v 3)) (.bin .add false (.slot 3) (.bin .mul false (.lst false [.tup [.slot 4, .lit (.int 0), .tup [], .lit (.bl false)]]) (.sub (.slot 2) (.slot 4))))]
def Nh_begun4 : List Str := ["_law_programs", "_law_bounds", "_law_counts", "_law_states", "_law_program"]
def h_begun4 : List CS :=
  [.asg (.pat (.v 3)) (.lst false []),
    h_begun4_l0,
    .ret (.tup [.bf .tuple false [.slot 3], .tup [], .bin .mul false (.tup [.lit (.int 0)]) (.bf .len false [.slot 1]), .lst false []])]
def Fh_begun4 : Fn := ⟨3, 5, h_begun4⟩
-- 1352
abbrev h_after5_l0 : CS := .loop (.t [.v 7, .v 8, .v 9, .v 10]) (.call 1350 [.slot 0, .sub (.slot 3) (.sub (.slot 2) (.lit (.int 0))), .slot 4, .slot 5] [] [.inl 0, .inl 1, .inl 2, .inl 3]) [.ite (.cmp .eq (.slot 7) (.sub (.slot 2) (.lit (.int 1)))) [.asg (.pat (.t [.v 11, .v 12, .v 13, .v 14])) (.sub (.slot 3) (.sub (.slot 2) (.lit (.int 0)))),
    .asg (.pat (.v 15)) (.sub (.sub (.slot 0) (.slot 11)) (.slot 12)),
    .asg (.pat (.v 16)) (.bin .mul false (.lst false [.tup [.slot 4, .slot 5, .tup [.slot 11, .sub (.slot 15) (.bin .sub false (.bf .len false [.slot 15]) (.lit (.int 1))), .slot 13, .lit (.bl false)]]]) (.bf .int false [.cmp .eq (.sub (.slot 15) (.lit (.int 0))) (.lit (.str "fork"))])),
    .ret (.tup [.call 1026 [.slot 3, .sub (.slot 2) (.lit (.int 0)), .slot 8] [] [.inl 0, .inl 1, .inl 2], .slot 9, .slot 10, .bin .add false (.slot 6) (.slot 16)])] []]
def Nh_after5 : List Str := ["_law_programs", "_law_moment", "_law_step", "_law_states", "_law_locked", "_law_values", "_law_born", "_law_way", "_law_later", "_law_more", "_law_written", "_law_program", "_law_position", "_law_held", "_law_writing", "_law_row", "_law_child"]
def h_after5 : List CS :=
  [.asg (.pat (.t [.v 3, .v 4, .v 5, .v 6])) (.slot 1),
    h_after5_l0,
    .ret (.lit .non)]
def Fh_after5 : Fn := ⟨3, 17, h_after5⟩
-- 1353
abbrev h_single_c0 : CE := .comp false [.mk (.v 4) (.slot 5) [.cmp .eq (.sub (.slot 4) (.lit (.int 0))) (.lit (.str "fork"))]] [4] (.slot 4)
abbrev h_single_c1 : CE := .comp false [.mk (.v 5) (.tup [.slot 1, .slot 2]) []] [5] (.bf .len false [h_single_c0])
def Nh_single : List Str := ["_law_source_here", "_law_program", "_law_bent_here", "_law_forks", "_law_row", "_law_one"]
def h_single : List CS :=
  [.asg (.pat (.v 2)) (.call 1232 [.slot 0, .slot 1] [] [.inl 0, .inl 1]),
    .asg (.pat (.v 3)) (h_single_c1),
    .ret (.ite (.cmp .eq (.sub (.slot 3) (.lit (.int 0))) (.sub (.slot 3) (.lit (.int 1)))) (.slot 2) (.slot 1))]
def Fh_single : Fn := ⟨2, 6, h_single⟩
-- 1354
def Nh_small : List Str := ["_law_source_here", "_law_menu", "_law_found"]
def h_small : List CS :=
  [.asg (.pat (.v 1)) (.call 1230 [] [] []),
    .exp (.bm .pop true (.slot 1) [.lit (.int 4)]),
    .asg (.pat (.v 2)) (.lst true [.call 1353 [.slot 0, .sub (.slot 1) (.call 1001 [.slot 0, .bf .len false [.slot 1]] [] [.inl 0, .inl 1])] [] [.inl 0, .inl 1]]),
    .ite (.cmp .gt (.call 1001 [.slot 0, .lit (.int 5)] [] [.inl 0, .inl 1]) (.lit (.int 0))) [.asg (.pat (.v 1)) (.call 1231 [] [] []),
    .exp (.bm .append true (.slot 2) [.call 1353 [.slot 0, .sub (.slot 1) (.call 1001 [.slot 0, .bf .len false [.slot 1]] [] [.inl 0, .inl 1])] [] [.inl 0, .inl 1]])] [],
    .ret (.tup [.tup [.lit (.int 2), .lst false [.lit (.int 1)]], .ite (.cmp .eq (.call 1001 [.slot 0, .lit (.int 2)] [] [.inl 0, .inl 1]) (.lit (.int 0))) (.rev false (.slot 2)) (.slot 2)])]
def Fh_small : Fn := ⟨1, 3, h_small⟩
-- 1355
def Nh_made2 : List Str := ["_law_case"]
def h_made2 : List CS :=
  [.ret (.mk false 9 [.sub (.slot 0) (.lit (.int 1))] [.sub (.sub (.slot 0) (.lit (.int 0))) (.lit (.int 0)), .sub (.sub (.slot 0) (.lit (.int 0))) (.lit (.int 1))] [.inl 0, .inl 1, .inl 2, .inl 3])]
def Fh_made2 : Fn := ⟨1, 1, h_made2⟩
-- 1356
abbrev h_behind1_l0 : CS := .loop (.t [.v 6, .v 7, .v 8, .v 9]) (.call 1350 [.slot 0, .sub (.slot 3) (.slot 4), .sub (.slot 1) (.lit (.int 0)), .sub (.slot 1) (.lit (.int 1))] [] [.inl 0, .inl 1, .inl 2, .inl 3]) [.exp (.bm .append true (.slot 2) [.tup [.slot 8, .slot 9, .bf .tuple false [.bf .sorted false [.bin .add false (.slot 5) (.tup [.slot 7])]]]])]
abbrev h_behind1_l1 : CS := .loop (.v 4) (.rng [.bf .len false [.slot 3]]) [.asg (.pat (.v 5)) (.bin .add false (.cut false (.slot 3) none (some (.slot 4))) (.cut false (.slot 3) (some (.bin .add false (.slot 4) (.lit (.int 1)))) none)),
    h_behind1_l0]
def Nh_behind1 : List Str := ["_law_programs", "_law_world", "_law_found", "_law_threads", "_law_k", "_law_rest", "_law_way", "_law_later", "_law_locked", "_law_values"]
def h_behind1 : List CS :=
  [.asg (.pat (.t [.v 2, .v 3])) (.tup [.lst true [], .sub (.slot 1) (.lit (.int 2))]),
    h_behind1_l1,
    .ret (.frz (.slot 2))]
def Fh_behind1 : Fn := ⟨2, 10, h_behind1⟩
-- 1357
def Nh_wanted1 : List Str := ["_law_programs", "_law_state", "_law_row"]
def h_wanted1 : List CS :=
  [.asg (.pat (.v 2)) (.sub (.sub (.slot 0) (.sub (.slot 1) (.lit (.int 0)))) (.sub (.slot 1) (.lit (.int 1)))),
    .ret (.ite (.cmp .eq (.sub (.slot 2) (.lit (.int 0))) (.lit (.str "acquire"))) (.sub (.slot 2) (.lit (.int 1))) (.lit .non))]
def Fh_wanted1 : Fn := ⟨2, 3, h_wanted1⟩
-- 1358
abbrev h_is_blocked1_c0 : CE := .comp false [.mk (.v 6) (.rng [.bf .len false [.slot 1]]) [.cmp .inn (.slot 4) (.sub (.sub (.slot 1) (.slot 6)) (.lit (.int 2)))]] [6] (.slot 6)
abbrev h_is_blocked1_w1 : CS := .whl (.cmp .notIn (.slot 2) (.slot 3)) [.exp (.bm .append true (.slot 3) [.slot 2]),
    .asg (.pat (.v 4)) (.call 1357 [.slot 0, .sub (.slot 1) (.slot 2)] [] [.inl 0, .inl 1]),
    .ite (.cmp .is (.slot 4) (.lit .non)) [.ret (.conj [.cmp .gt (.bf .len false [.slot 3]) (.lit (.int 1)), .cmp .eq (.sub (.sub (.sub (.slot 0) (.sub (.sub (.slot 1) (.slot 2)) (.lit (.int 0)))) (.sub (.sub (.slot 1) (.slot 2)) (.lit (.int 1)))) (.lit (.int 0))) (.lit (.str "end"))])] [],
    .asg (.pat (.v 5)) (h_is_blocked1_c0),
    .ite (.cmp .eq (.slot 5) (.lst false [])) [.ret (.lit (.bl false))] [],
    .asg (.pat (.v 2)) (.sub (.slot 5) (.lit (.int 0)))]
def Nh_is_blocked1 : List Str := ["_law_programs", "_law_threads", "_law_k", "_law_seen", "_law_wanted_here", "_law_owners", "_law_j"]
def h_is_blocked1 : List CS :=
  [.asg (.pat (.v 3)) (.lst true []),
    h_is_blocked1_w1,
    .ret (.lit (.bl true))]
def Fh_is_blocked1 : Fn := ⟨3, 7, h_is_blocked1⟩
-- 1373
abbrev h_child_moves3_l0 : CS := .loop (.t [.v 8, .v 9, .v 10, .v 11]) (.call 1350 [.slot 0, .sub (.slot 1) (.lit (.int 2)), .sub (.slot 1) (.lit (.int 0)), .sub (.slot 1) (.lit (.int 1))] [] [.inl 0, .inl 1, .inl 2, .inl 3]) [.exp (.bm .append true (.slot 6) [.tup [.slot 8, .tup [.slot 10, .slot 11, .slot 9], .lit (.int 0)]])]
def Nh_child_moves3 : List Str := ["_law_programs", "_law_child", "_law_program", "_law_position", "_law_held", "_law_writing", "_law_found", "_law_row", "_law_way", "_law_later", "_law_locked", "_law_values"]
def h_child_moves3 : List CS :=
  [.asg (.pat (.t [.v 2, .v 3, .v 4, .v 5])) (.sub (.slot 1) (.lit (.int 2))),
    .asg (.pat (.t [.v 6, .v 7])) (.tup [.lst true [], .sub (.sub (.slot 0) (.slot 2)) (.slot 3)]),
    h_child_moves3_l0,
    .ite (.cmp .eq (.sub (.slot 7) (.lit (.int 0))) (.lit (.str "fork"))) [.exp (.bm .append true (.slot 6) [.tup [.lit (.int 1), .tup [.sub (.slot 1) (.lit (.int 0)), .sub (.slot 1) (.lit (.int 1)), .tup [.slot 2, .sub (.slot 7) (.lit (.int 1)), .slot 4, .lit (.bl false)]], .lit (.int 1)]])] [],
    .ret (.frz (.slot 6))]
def Fh_child_moves3 : Fn := ⟨2, 12, h_child_moves3⟩
-- 1374
def Nh_stuck3 : List Str := ["_law_programs", "_law_child", "_law_program", "_law_position", "_law_held", "_law_writing", "_law_row"]
def h_stuck3 : List CS :=
  [.asg (.pat (.t [.v 2, .v 3, .v 4, .v 5])) (.sub (.slot 1) (.lit (.int 2))),
    .asg (.pat (.v 6)) (.sub (.sub (.slot 0) (.slot 2)) (.slot 3)),
    .ite (.conj [.cmp .eq (.sub (.slot 6) (.lit (.int 0))) (.lit (.str "acquire")), .cmp .inn (.sub (.slot 6) (.lit (.int 1))) (.sub (.slot 1) (.lit (.int 0)))]) [.ret (.tup [.slot 3, .ite (.cmp .inn (.sub (.slot 6) (.lit (.int 1))) (.slot 4)) (.lit (.str "self")) (.lit (.str "orphan")), .sub (.slot 6) (.lit (.int 1))])] [],
    .ite (.conj [.cmp .eq (.sub (.slot 6) (.lit (.int 0))) (.lit (.str "test")), .cmp .eq (.sub (.sub (.slot 1) (.lit (.int 1))) (.sub (.slot 6) (.lit (.int 1)))) (.neg (.lit (.int 1)))]) [.ret (.tup [.slot 3, .lit (.str "half"), .sub (.slot 6) (.lit (.int 1))])] [],
    .ret (.lit .non)]
def Fh_stuck3 : Fn := ⟨2, 7, h_stuck3⟩
-- 1376
def Nh_child_of1 : List Str := ["_law_programs", "_law_locked", "_law_values", "_law_state", "_law_program", "_law_position", "_law_held", "_law_writing"]
def h_child_of1 : List CS :=
  [.asg (.pat (.t [.v 4, .v 5, .v 6, .v 7])) (.slot 3),
    .ret (.tup [.slot 1, .slot 2, .tup [.slot 4, .sub (.sub (.sub (.slot 0) (.slot 4)) (.slot 5)) (.lit (.int 1)), .slot 6, .lit (.bl false)]])]
def Fh_child_of1 : Fn := ⟨4, 8, h_child_of1⟩
-- 1386
def Nh_double : List Str := ["_law_source_here", "_law_some", "_law_more", "_law_found"]
def h_double : List CS :=
  [.asg (.pat (.v 1)) (.lst false [.lst false [.tup [.lit (.str "fork"), .lit (.int 2)], .tup [.lit (.str "fork"), .lit (.int 2)], .tup [.lit (.str "acquire"), .lit (.int 1)], .tup [.lit (.str "end")]]]),
    .asg (.pat (.v 1)) (.bin .add false (.slot 1) (.lst false [.lst false [.tup [.lit (.str "fork"), .lit (.int 1)], .tup [.lit (.str "fork"), .lit (.int 2)], .tup [.lit (.str "test"), .lit (.int 0), .lit (.int 1), .lit (.int 3)], .tup [.lit (.str "end")]]])),
    .asg (.pat (.v 1)) (.bin .add false (.slot 1) (.lst false [.lst false [.tup [.lit (.str "fork"), .lit (.int 2)], .tup [.lit (.str "end")], .tup [.lit (.str "fork"), .lit (.int 4)], .tup [.lit (.str "end")], .tup [.lit (.str "acquire"), .lit (.int 1)], .tup [.lit (.str "end")]]])),
    .asg (.pat (.v 2)) (.lst false [.lst false [.tup [.lit (.str "acquire"), .lit (.int 1)], .tup [.lit (.str "end")]], .lst false [.tup [.lit (.str "acquire"), .lit (.int 1)], .tup [.lit (.str "release"), .lit (.int 1)], .tup [.lit (.str "jump"), .lit (.int 0)]], .lst false [.tup [.lit (.str "write"), .lit (.int 0), .lit (.int 1)], .tup [.lit (.str "jump"), .lit (.int 0)]]]),
    .asg (.pat (.v 3)) (.lst false [.sub (.slot 1) (.call 1001 [.slot 0, .lit (.int 3)] [] [.inl 0, .inl 1]), .sub (.slot 2) (.call 1001 [.slot 0, .lit (.int 3)] [] [.inl 0, .inl 1])]),
    .ret (.tup [.tup [.lit (.int 2), .lst false [.lit (.int 1)]], .ite (.cmp .eq (.call 1001 [.slot 0, .lit (.int 2)] [] [.inl 0, .inl 1]) (.lit (.int 0))) (.rev false (.slot 3)) (.slot 3)])]
def Fh_double : Fn := ⟨1, 4, h_double⟩
-- 1402
abbrev h_words_c0 : CE := .comp false [.mk (.v 1) (.slot 0) []] [1] (.bf .str false [.slot 1])
def Nh_words : List Str := ["_law_parts", "_law_part"]
def h_words : List CS :=
  [.ret (.bm .join false (.lit (.str " ")) [h_words_c0])]
def Fh_words : Fn := ⟨1, 2, h_words⟩
-- 1460
abbrev h_tiny_case_c0 : CE := .comp false [.mk (.v 4) (.rng [.slot 3]) []] [4] (.sub (.slot 2) (.call 1001 [.slot 0, .bf .len false [.slot 2]] [] [.inl 0, .inl 1]))
def Nh_tiny_case : List Str := ["_law_source_here", "_law_sizes", "_law_some", "_law_many", "_law_turn"]
def h_tiny_case : List CS :=
  [.asg (.pat (.v 1)) (.sub (.lst false [.tup [.lit (.int 1), .lst false []], .tup [.lit (.int 0), .lst false [.lit (.int 1)]]]) (.call 1001 [.slot 0, .lit (.int 2)] [] [.inl 0, .inl 1])),
    .ite (.cmp .eq (.call 1001 [.slot 0, .lit (.int 2)] [] [.inl 0, .inl 1]) (.lit (.int 0))) [.ret (.tup [.slot 1, .call 1105 [.slot 0, .slot 1, .lit (.int 2), .lit (.int 3)] [] [.inl 0, .inl 1, .inl 2, .inl 3]])] [],
    .asg (.pat (.v 2)) (.lst false [.lst false [.tup [.lit (.str "fork"), .lit (.int 1)], .tup [.lit (.str "acquire"), .lit (.int 0)], .tup [.lit (.str "end")]], .lst false [.tup [.lit (.str "acquire"), .lit (.int 0)], .tup [.lit (.str "fork"), .lit (.int 1)], .tup [.lit (.str "jump"), .lit (.int 1)]]]),
    .asg (.pat (.v 2)) (.bin .add false (.slot 2) (.lst false [.lst false [.tup [.lit (.str "fork"), .lit (.int 2)], .tup [.lit (.str "jump"), .lit (.int 0)], .tup [.lit (.str "end")]], .lst false [.tup [.lit (.str "acquire"), .lit (.int 0)], .tup [.lit (.str "end")]], .lst false [.tup [.lit (.str "acquire"), .lit (.int 0)], .tup [.lit (.str "jump"), .lit (.int 1)]]])),
    .asg (.pat (.v 2)) (.bin .add false (.slot 2) (.lst false [.lst false [.tup [.lit (.str "acquire"), .lit (.int 0)], .tup [.lit (.str "release"), .lit (.int 0)], .tup [.lit (.str "jump"), .lit (.int 0)]], .lst false [.tup [.lit (.str "try"), .lit (.int 0), .lit (.int 1)], .tup [.lit (.str "fork"), .lit (.int 0)], .tup [.lit (.str "end")]]])),
    .ite (.cmp .eq (.sub (.slot 1) (.lit (.int 0))) (.lit (.int 0))) [.asg (.pat (.v 2)) (.lst false [.lst false [.tup [.lit (.str "fork"), .lit (.int 1)], .tup [.lit (.str "test"), .lit (.int 0), .lit (.int 1), .lit (.int 1)], .tup [.lit (.str "end")]], .lst false [.tup [.lit (.str "write"), .lit (.int 0), .lit (.int 1)], .tup [.lit (.str "jump"), .lit (.int 0)]], .lst false [.tup [.lit (.str "write"), .lit (.int 0), .lit (.int 1)], .tup [.lit (.str "end")]]]),
    .asg (.pat (.v 2)) (.bin .add false (.slot 2) (.lst false [.lst false [.tup [.lit (.str "test"), .lit (.int 0), .lit (.int 0), .lit (.int 2)], .tup [.lit (.str "fork"), .lit (.int 0)], .tup [.lit (.str "jump"), .lit (.int 0)]], .lst false [.tup [.lit (.str "choose"), .lit (.int 1)], .tup [.lit (.str "fork"), .lit (.int 0)], .tup [.lit (.str "end")]]]))] [],
    .asg (.pat (.v 3)) (.bin .add false (.lit (.int 1)) (.bf .min2 false [.lit (.int 1), .call 1001 [.slot 0, .lit (.int 4)] [] [.inl 0, .inl 1]])),
    .ret (.tup [.slot 1, h_tiny_case_c0])]
def Fh_tiny_case : Fn := ⟨1, 5, h_tiny_case⟩
-- 1461
abbrev h_meets_block_c0 : CE := .comp false [.mk (.v 5) (.rng [.bf .len false [.sub (.slot 3) (.lit (.int 2))]]) [.disj [.cmp .is (.slot 2) (.lit .non), .cmp .inn (.cut false (.sub (.sub (.slot 3) (.lit (.int 2))) (.slot 5)) none (some (.lit (.int 2)))) (.slot 2)]]] [5] (.slot 5)
abbrev h_meets_block_c1 : CE := .comp false [.mk (.v 5) (.slot 4) []] [5] (.call 1322 [.slot 0, .sub (.slot 3) (.lit (.int 2)), .slot 5] [] [.inl 0, .inl 1, .inl 2])
abbrev h_meets_block_l2 : CS := .loop (.v 3) (.slot 1) [.asg (.pat (.v 4)) (h_meets_block_c0),
    .ite (.bf .any false [h_meets_block_c1]) [.ret (.lit (.bl true))] []]
def Nh_meets_block : List Str := ["_law_programs_here", "_law_worlds", "_law_spots", "_law_world", "_law_some", "_law_k"]
def h_meets_block : List CS :=
  [h_meets_block_l2,
    .ret (.lit (.bl false))]
def Fh_meets_block : Fn := ⟨3, 6, h_meets_block⟩
-- 1463
abbrev h_problem_patterns_c0 : CE := .comp false [.mk (.v 5) (.sub (.slot 2) (.slot 4)) []] [5] (.sub (.slot 5) (.lit (.int 0)))
abbrev h_problem_patterns_l1 : CS := .loop (.v 4) (.slot 2) [.asg (.pat (.v 3)) (.bin .add false (.slot 3) (h_problem_patterns_c0))]
def Nh_problem_patterns : List Str := ["_law_programs_here", "_law_sizes", "_law_rows", "_law_found", "_law_problem", "_law_row"]
def h_problem_patterns : List CS :=
  [.asg (.pat (.t [.v 2, .v 3])) (.tup [.call 1277 [.slot 0, .slot 1] [] [.inl 0, .inl 1], .lst false []]),
    h_problem_patterns_l1,
    .ret (.slot 3)]
def Fh_problem_patterns : Fn := ⟨2, 6, h_problem_patterns⟩
end Lc
end

section
set_option autoImplicit false
set_option linter.all false
set_option Elab.async false
set_option maxRecDepth 100000
/-! Ma: running the core: stores, comprehensions, loops. -/
namespace Lc
open PySem hiding isTrue

/-! ### calls -/
theorem callN_fn {G : Prg} {k f : Nat} {d : Fn} {as : List D} {M : Store} (h : G.fn f = some d) (hl : as.length = d.np) :
    callN G (k + 1) f as M = outOf M (evB ⟨callN G k, G.meth, G.fld, G.prop, G.cmet⟩ d.body (as.map some ++ List.replicate (d.ns - d.np) none) M) := by
  simp only [callN, h, if_pos hl]
/-! ### stores -/
theorem sameU_self (n : Nat) : ∀ (A B : Store), sameU n A (A ++ B) = true
  | [], _ => rfl
  | x :: xs, B => by simp [sameU, sameU_self n xs B]
theorem trunc_app {M0 : Store} {v : D} {B : Store} (h : v.under M0.length = true) : trunc M0 v (M0 ++ B) = .ok v M0 := by
  unfold trunc
  rw [h, sameU_self]
  simp
theorem trunc_self {M0 : Store} {v : D} (h : v.under M0.length = true) : trunc M0 v M0 = .ok v M0 := by
  have := trunc_app (M0 := M0) (v := v) (B := []) h
  simpa using this
theorem AO.under_mono {n m : Nat} (h : n ≤ m) : True := trivial
theorem sameU_set (n i : Nat) (o : AO) (ho : o.under n = true) : ∀ (A B : Store), sameU n A (A.set i o ++ B) = true
  | A, B => by
    induction A generalizing i with
    | nil => rfl
    | cons x xs ih =>
      cases i with
      | zero => simp [sameU, ho, sameU_self]
      | succ i => simp [sameU, ih]
theorem trunc_set {M0 : Store} {v : D} {B : Store} {i : Nat} {o : AO} (h : v.under M0.length = true) (ho : o.under M0.length = true) : trunc M0 v (M0.set i o ++ B) = .ok v (M0.set i o) := by
  unfold trunc
  rw [h, sameU_set _ _ _ ho]
  simp
theorem trunc_set0 {M0 : Store} {v : D} {i : Nat} {o : AO} (h : v.under M0.length = true) (ho : o.under M0.length = true) : trunc M0 v (M0.set i o) = .ok v (M0.set i o) := by
  have := trunc_set (M0 := M0) (v := v) (B := []) (i := i) (o := o) h ho
  simpa using this
@[simp] theorem get_end (M : Store) (a : AO) (B : Store) : (M ++ a :: B)[M.length]? = some a := by simp
theorem get_old {M : Store} {n : Nat} {o : AO} (h : M[n]? = some o) (B : Store) : (M ++ B)[n]? = some o := by
  rw [List.getElem?_append_left (List.getElem?_eq_some_iff.mp h).1]; exact h
theorem set_old {M : Store} {n : Nat} {o : AO} (h : M[n]? = some o) (B : Store) (a : AO) : (M ++ B).set n a = M.set n a ++ B := by
  rw [List.set_append, if_pos (List.getElem?_eq_some_iff.mp h).1]
@[simp] theorem set_end (M : Store) (a b : AO) (B : Store) : (M ++ a :: B).set M.length b = M ++ b :: B := by
  rw [List.set_append, if_neg (by omega), Nat.sub_self]; rfl
theorem get_set {M : Store} {n : Nat} {o a : AO} (h : M[n]? = some o) : (M.set n a)[n]? = some a := by
  rw [List.getElem?_set_self (List.getElem?_eq_some_iff.mp h).1]
/-! ### data without places -/
mutual
theorem D.under_mono {n m : Nat} (h : n ≤ m) : ∀ {d : D}, d.under n = true → d.under m = true
  | .non, _ => rfl | .bl _, _ => rfl | .int _, _ => rfl | .str _, _ => rfl | .cls _, _ => rfl
  | .tup xs, q => by unfold D.under at q ⊢; exact D.underL_mono h q
  | .lst xs, q => by unfold D.under at q ⊢; exact D.underL_mono h q
  | .dic ks vs, q => by
    unfold D.under at q ⊢
    obtain ⟨a, b⟩ := Bool.and_eq_true_iff.mp q
    rw [D.underL_mono h a, D.underL_mono h b]; rfl
  | .obj _ _ vs, q => by unfold D.under at q ⊢; exact D.underL_mono h q
  | .loc k, q => by unfold D.under at q ⊢; have := of_decide_eq_true q; exact decide_eq_true (by omega)
theorem D.underL_mono {n m : Nat} (h : n ≤ m) : ∀ {d : List D}, D.underL n d = true → D.underL m d = true
  | [], _ => rfl
  | x :: xs, q => by
    unfold D.underL at q ⊢
    obtain ⟨a, b⟩ := Bool.and_eq_true_iff.mp q
    rw [D.under_mono h a, D.underL_mono h b]; rfl
end
theorem D.underL_all {n : Nat} : ∀ {xs : List D}, D.underL n xs = true ↔ ∀ x ∈ xs, D.under n x = true
  | [] => by simp [D.underL]
  | x :: xs => by simp [D.underL, D.underL_all (xs := xs)]
/-! ### comprehensions of one clause -/
/-- with what stands in the store -/
theorem comp_run {E : Fe} {own : Bool} {p : Pat} {it : CE} {ifs : List CE} {vars : List Nat} {e : CE} {L : Loc} {M M1 : Store} {d : D} {xs : List D} (hit : evE E it L M = .ok d M1) (hx : Lc.items M1 d = some xs)
    (P : Nat → List D → Store → Prop) (h0 : P 0 [] (M1 ++ [.lst []])) (hst : ∀ i acc M', P i acc M' → still M1 d M' = true ∧ M'[M1.length]? = some (.lst acc))
    (step : ∀ (i : Nat) (x : D) acc M', xs[i]? = some x → P i acc M' → ∃ L1, Pat.set p x M' (wipeL L vars) = some L1 ∧ ∃ b M2, evIfs E ifs L1 M' = .ok b M2 ∧ (if b then ∃ v M3, evE E e L1 M2 = .ok v M3 ∧ M3[M1.length]? = some (.lst acc) ∧ acc.length < line ∧ P (i + 1) (acc ++ [v]) (M3.set M1.length (.lst (acc ++ [v]))) else P (i + 1) acc M2)) :
    ∃ ys M4, P xs.length ys M4 ∧ evE E (.comp own [.mk p it ifs] vars e) L M = noexc (doneL own M1 M4) := by
  have key : ∀ (n i : Nat) (acc : List D) (M' : Store), i + n = xs.length → P i acc M' → ∃ ys M4, P xs.length ys M4 ∧ loopE (fun x M2 => match Pat.set p x M2 (wipeL L vars) with
        | some L1 => (evIfs E ifs L1 M2).bind fun b M3 => if b then evGs E [] (fun L1 M1 => evE E e L1 M1) L1 M3 M1.length else .ok () M3
        | none => .bad) (still M1 d) (xs.drop i) M' = .ok () M4 := by
    intro n
    induction n with
    | zero =>
      intro i acc M' hi hp
      have hi : i = xs.length := by omega
      subst hi
      exact ⟨acc, M', hp, by rw [List.drop_length]; rfl⟩
    | succ n ih =>
      intro i acc M' hi hp
      have hlt : i < xs.length := by omega
      rw [List.drop_eq_getElem_cons hlt]
      obtain ⟨L1, e1, b, M2, e2, h2⟩ := step i xs[i] acc M' (List.getElem?_eq_getElem hlt) hp
      cases b with
      | false =>
        have h2 : P (i + 1) acc M2 := h2
        obtain ⟨ys, M4, q1, q2⟩ := ih (i + 1) acc M2 (by omega) h2
        refine ⟨ys, M4, q1, ?_⟩
        simp only [loopE, e1, e2, Res.bind_ok, Bool.false_eq_true, if_false, (hst _ _ _ h2).1, if_true]
        exact q2
      | true =>
        obtain ⟨v, M3, e3, e4, e5, h3⟩ := h2
        obtain ⟨ys, M4, q1, q2⟩ := ih (i + 1) _ _ (by omega) h3
        refine ⟨ys, M4, q1, ?_⟩
        simp only [loopE, e1, e2, Res.bind_ok, if_true, evGs, e3, pushE, e4, e5, (hst _ _ _ h3).1]
        exact q2
  obtain ⟨ys, M4, q1, q2⟩ := key xs.length 0 [] _ (by omega) h0
  rw [List.drop_zero] at q2
  refine ⟨ys, M4, q1, ?_⟩
  simp only [evE, evC, hit, Res.bind_ok, hx]
  exact congrArg (fun r => noexc (Res.bind r fun _ M4 => doneL own M1 M4)) q2
theorem still_more {M1 : Store} {d : D} {xs : List D} (hx : Lc.items M1 d = some xs) (B : Store) : still M1 d (M1 ++ B) = true := by
  unfold still
  cases d with
  | loc n =>
    have : n < M1.length := by
      unfold Lc.items view at hx
      cases q : M1[n]? with
      | none => simp [q] at hx
      | some o => exact (List.getElem?_eq_some_iff.mp q).1
    simp [List.getElem?_append_left this]
  | _ => rfl
/-- an element without effects -/
theorem comp_pure {E : Fe} {p : Pat} {it : CE} {ifs : List CE} {vars : List Nat} {e : CE} {L : Loc} {M M1 : Store} {d : D} {xs : List D} (f : D → Option D) (hit : evE E it L M = .ok d M1) (hx : Lc.items M1 d = some xs) (hl : xs.length ≤ line)
    (step : ∀ x ∈ xs, ∀ acc : List D, ∃ L1, Pat.set p x (M1 ++ [.lst acc]) (wipeL L vars) = some L1 ∧ evIfs E ifs L1 (M1 ++ [.lst acc]) = .ok (f x).isSome (M1 ++ [.lst acc]) ∧ ∀ v, f x = some v → ∃ B, evE E e L1 (M1 ++ [.lst acc]) = .ok v (M1 ++ [.lst acc] ++ B) ∧ B = [])
    (hu : ∀ x ∈ xs, ∀ v, f x = some v → v.under M1.length = true) : evE E (.comp false [.mk p it ifs] vars e) L M = .ok (.lst (xs.filterMap f)) M1 ∧ evE E (.comp true [.mk p it ifs] vars e) L M = .ok (.loc M1.length) (M1 ++ [.lst (xs.filterMap f)]) := by
  have key : ∀ own, evE E (.comp own [.mk p it ifs] vars e) L M = noexc (doneL own M1 (M1 ++ [.lst (xs.filterMap f)])) := by
    intro own
    obtain ⟨ys, M4, q1, q2⟩ := comp_run (own := own) hit hx (fun i acc M' => acc = (xs.take i).filterMap f ∧ M' = M1 ++ [.lst acc]) ⟨rfl, rfl⟩ (fun i acc M' h => by
      obtain ⟨_, rfl⟩ := h
      exact ⟨still_more hx _, by simp⟩) (fun i x acc M' hi h => by
      obtain ⟨ha, rfl⟩ := h
      have hm := List.mem_of_getElem? hi
      obtain ⟨L1, e1, e2, e3⟩ := step x hm acc
      have ht : xs.take (i + 1) = xs.take i ++ [x] := by rw [List.take_add_one, hi]; rfl
      refine ⟨L1, e1, (f x).isSome, _, e2, ?_⟩
      cases q : f x with
      | none =>
        refine ⟨?_, rfl⟩
        rw [ht, List.filterMap_append, ha]
        simp [q]
      | some v =>
        obtain ⟨B, e4, rfl⟩ := e3 v q
        rw [List.append_nil] at e4
        refine ⟨v, _, e4, by simp, ?_, ?_, by simp⟩
        · rw [ha]
          have h1 := List.length_filterMap_le f (xs.take i)
          have h2 : i < xs.length := (List.getElem?_eq_some_iff.mp hi).1
          rw [List.length_take] at h1
          omega
        · rw [ht, List.filterMap_append, ha]
          simp [q])
    obtain ⟨rfl, rfl⟩ := q1
    rw [List.take_length] at q2
    exact q2
  have un : D.underL M1.length (xs.filterMap f) = true := D.underL_all.mpr fun v hv => by
    obtain ⟨x, hx1, hx2⟩ := List.mem_filterMap.mp hv
    exact hu x hx1 v hx2
  refine ⟨?_, ?_⟩
  · rw [key]
    simp only [doneL, get_end, set_end, Bool.false_eq_true, if_false]
    rw [trunc_app (by unfold D.under; exact un)]
    rfl
  · rw [key]
    simp only [doneL, get_end, if_true]
    rfl
end Lc
end

section
set_option autoImplicit false
set_option linter.all false
set_option Elab.async false
set_option maxRecDepth 100000
/-! Mb: data of shapes: equality, order; loops. -/
namespace Lc
open PySem hiding isTrue

/-! ### equality -/
@[simp] theorem peq_int (a b : Int) : peq (.int a) (.int b) = decide (a = b) := by
  unfold peq; simp only [D.pd, PyData.eqv]; rw [Bool.eq_iff_iff]; simp
@[simp] theorem peq_str (a b : Str) : peq (.str a) (.str b) = decide (a = b) := by
  unfold peq; simp only [D.pd, PyData.eqv]; rw [Bool.eq_iff_iff]; simp
@[simp] theorem peq_bl (a b : Bool) : peq (.bl a) (.bl b) = decide (a = b) := by
  unfold peq; simp only [D.pd, PyData.eqv]; rw [Bool.eq_iff_iff]; simp
@[simp] theorem peq_non : peq .non .non = true := by unfold peq; simp only [D.pd, PyData.eqv]
def peqL (xs ys : List D) : Bool := PyData.eqvAll (D.pdL xs) (D.pdL ys)
@[simp] theorem peq_tup (xs ys : List D) : peq (.tup xs) (.tup ys) = peqL xs ys := by unfold peq peqL; simp only [D.pd, PyData.eqv]
@[simp] theorem peq_lst (xs ys : List D) : peq (.lst xs) (.lst ys) = peqL xs ys := by unfold peq peqL; simp only [D.pd, PyData.eqv]
@[simp] theorem peqL_nil : peqL [] [] = true := by unfold peqL; simp only [D.pdL, PyData.eqvAll]
@[simp] theorem peqL_cons (x y : D) (xs ys : List D) : peqL (x :: xs) (y :: ys) = (peq x y && peqL xs ys) := by unfold peqL peq; simp only [D.pdL, PyData.eqvAll]
@[simp] theorem peqL_nc (x : D) (xs : List D) : peqL [] (x :: xs) = false := by unfold peqL; simp only [D.pdL, PyData.eqvAll]
@[simp] theorem peqL_cn (x : D) (xs : List D) : peqL (x :: xs) [] = false := by unfold peqL; simp only [D.pdL, PyData.eqvAll]
theorem peqL_map {α : Type} [DecidableEq α] {f : α → D} (h : ∀ a b, peq (f a) (f b) = decide (a = b)) : ∀ xs ys : List α, peqL (xs.map f) (ys.map f) = decide (xs = ys)
  | [], [] => by simp
  | [], y :: ys => by simp
  | x :: xs, [] => by simp
  | x :: xs, y :: ys => by
    rw [List.map_cons, List.map_cons, peqL_cons, h, peqL_map h xs ys]
    by_cases h1 : x = y <;> by_cases h2 : xs = ys <;> simp [h1, h2]
theorem isin_map {α : Type} [DecidableEq α] {f : α → D} (h : ∀ a b, peq (f a) (f b) = decide (a = b)) (x : α) (ys : List α) : isin (f x) (ys.map f) = decide (x ∈ ys) := by
  unfold isin
  rw [List.any_map]
  induction ys with
  | nil => simp
  | cons y ys ih =>
    rw [List.any_cons, ih]
    simp only [Function.comp, h]
    by_cases e : y = x
    · simp [e]
    · have e' : ¬ x = y := fun q => e q.symm
      simp [e, e']
/-! ### plain -/
theorem pureL_all {n : Nat} : ∀ {xs : List D}, (∀ x ∈ xs, D.pure n x = true) → D.pureL n xs = true
  | [], _ => rfl
  | x :: xs, h => by
    unfold D.pureL
    rw [h x (.head _), pureL_all fun y hy => h y (.tail _ hy)]; rfl
mutual
theorem pure_up : ∀ {n : Nat} {d : D}, D.pure n d = true → D.pure (n + 1) d = true
  | n, .non, _ => rfl | n, .bl _, _ => rfl | n, .int _, _ => rfl
  | n, .str s, h => by cases n <;> exact h
  | 0, .tup _, h => by cases h
  | 0, .lst _, h => by cases h
  | n + 1, .tup xs, h => pureL_up (n := n) h
  | n + 1, .lst xs, h => pureL_up (n := n) h
  | n, .dic _ _, h => by cases n <;> cases h
  | n, .obj _ _ _, h => by cases n <;> cases h
  | n, .loc _, h => by cases n <;> cases h
  | n, .cls _, h => by cases n <;> cases h
theorem pureL_up : ∀ {n : Nat} {d : List D}, D.pureL n d = true → D.pureL (n + 1) d = true
  | _, [], _ => rfl
  | n, x :: xs, h => by
    unfold D.pureL at h ⊢
    obtain ⟨a, b⟩ := Bool.and_eq_true_iff.mp h
    rw [pure_up a, pureL_up b]; rfl
end
theorem pureL_map {α : Type} {n : Nat} {f : α → D} (h : ∀ a, D.pure n (f a) = true) (xs : List α) : D.pureL n (xs.map f) = true := pureL_all fun x hx => by
  obtain ⟨a, _, rfl⟩ := List.mem_map.mp hx
  exact h a
@[simp] theorem pure_int (n : Nat) (i : Int) : D.pure n (.int i) = true := by cases n <;> rfl
@[simp] theorem pure_bl (n : Nat) (b : Bool) : D.pure n (.bl b) = true := by cases n <;> rfl
@[simp] theorem pure_non (n : Nat) : D.pure n .non = true := by cases n <;> rfl
@[simp] theorem pure_tup (n : Nat) (xs : List D) : D.pure (n + 1) (.tup xs) = D.pureL n xs := rfl
@[simp] theorem pure_lst (n : Nat) (xs : List D) : D.pure (n + 1) (.lst xs) = D.pureL n xs := rfl
@[simp] theorem pureL_nil (n : Nat) : D.pureL n [] = true := rfl
@[simp] theorem pureL_cons (n : Nat) (x : D) (xs : List D) : D.pureL n (x :: xs) = (D.pure n x && D.pureL n xs) := rfl
@[simp] theorem under_int (n : Nat) (i : Int) : D.under n (.int i) = true := rfl
@[simp] theorem under_bl (n : Nat) (i : Bool) : D.under n (.bl i) = true := rfl
@[simp] theorem under_str (n : Nat) (i : Str) : D.under n (.str i) = true := rfl
@[simp] theorem under_non (n : Nat) : D.under n .non = true := rfl
@[simp] theorem under_tup (n : Nat) (xs : List D) : D.under n (.tup xs) = D.underL n xs := by rw [D.under]
@[simp] theorem under_lst (n : Nat) (xs : List D) : D.under n (.lst xs) = D.underL n xs := by rw [D.under]
@[simp] theorem under_obj (n c : Nat) (ns : List Str) (xs : List D) : D.under n (.obj c ns xs) = D.underL n xs := by rw [D.under]
@[simp] theorem underL_nil (n : Nat) : D.underL n [] = true := rfl
@[simp] theorem underL_cons (n : Nat) (x : D) (xs : List D) : D.underL n (x :: xs) = (D.under n x && D.underL n xs) := by rw [D.underL]
theorem underL_map {α : Type} {n : Nat} {f : α → D} (h : ∀ a, D.under n (f a) = true) (xs : List α) : D.underL n (xs.map f) = true := D.underL_all.mpr fun x hx => by
  obtain ⟨a, _, rfl⟩ := List.mem_map.mp hx
  exact h a
/-! ### tuples of whole numbers -/
abbrev dT (xs : List Int) : D := .tup (xs.map .int)
theorem pd_ints : ∀ xs : List Int, D.pdL (xs.map .int) = xs.map .int
  | [] => rfl
  | x :: xs => by simp only [List.map_cons, D.pdL, D.pd, pd_ints xs]
@[simp] theorem peq_dT (a b : List Int) : peq (dT a) (dT b) = decide (a = b) := by
  rw [peq_tup]; exact peqL_map (by intro a b; simp) a b
@[simp] theorem pure_dT (n : Nat) (a : List Int) : D.pure (n + 1) (dT a) = true := pureL_map (fun i => by simp) a
@[simp] theorem under_dT (n : Nat) (a : List Int) : D.under n (dT a) = true := by rw [under_tup]; exact underL_map (fun i => rfl) a
theorem plt_dT (a b : List Int) : plt (dT a) (dT b) = decide (a < b) := by
  unfold plt
  simp only [D.pd, pd_ints, PySem.W.dataLt_tuple]
  exact PySem.W.dataLt_ints a b
theorem dle_plt (x y : D) : dle x y = !plt y x := rfl
theorem dle_dT (a b : List Int) : dle (dT a) (dT b) = decide (a ≤ b) := by
  rw [dle_plt, plt_dT]
  by_cases h : b < a
  · have h' : ¬ a ≤ b := by rw [List.not_le]; exact h
    simp [h, h']
  · have h' : a ≤ b := by rw [← List.not_lt]; exact h
    simp [h, h']
theorem alike_int (a b : Int) : alike (.int a) (.int b) = true := by unfold alike; simp [D.pd, PySem.W.alike]
theorem alikeAll_ints : ∀ a b : List Int, PySem.W.alikeAll (a.map .int) (b.map .int) = true
  | [], b => by simp [PySem.W.alikeAll]
  | x :: a, [] => by simp [PySem.W.alikeAll]
  | x :: a, y :: b => by
    rw [List.map_cons, List.map_cons, PySem.W.alikeAll, alikeAll_ints a b]
    simp [PySem.W.alike]
@[simp] theorem alike_dT (a b : List Int) : alike (dT a) (dT b) = true := by
  unfold alike
  simp only [D.pd, pd_ints, PySem.W.alike]
  exact alikeAll_ints a b
theorem allAlike_map {α : Type} {f : α → D} (h : ∀ a b, alike (f a) (f b) = true) (xs : List α) : allAlike (xs.map f) = true := by
  unfold allAlike
  rw [List.all_eq_true]
  intro x hx
  rw [List.all_eq_true]
  intro y hy
  obtain ⟨a, _, rfl⟩ := List.mem_map.mp hx
  obtain ⟨b, _, rfl⟩ := List.mem_map.mp hy
  exact h a b
theorem sort_map {α : Type} {f : α → D} {le : α → α → Bool} (h : ∀ a b, dle (f a) (f b) = le a b) (xs : List α) : (xs.map f).mergeSort dle = (xs.mergeSort le).map f := by
  have e : (fun a b => dle (f a) (f b)) = le := by funext a b; exact h a b
  rw [← e]
  exact (List.map_mergeSort (f := f) (r := fun a b => dle (f a) (f b)) (s := dle) (fun a _ b _ => rfl)).symm
abbrev leI (a b : List Int) : Bool := decide (a ≤ b)
abbrev dTs (xs : List (List Int)) : D := .lst (xs.map dT)
theorem flat_map {α : Type} {f : α → D} (h : ∀ a, D.pure 39 (f a) = true) (xs : List α) : D.pureL flatN (xs.map f) = true := pureL_all fun x hx => by
  obtain ⟨a, _, rfl⟩ := List.mem_map.mp hx
  exact pure_up (h a)
theorem sorted_map {α : Type} {f : α → D} {le : α → α → Bool} {M : Store} {d : D} {ts : List α} (hp : ∀ a, D.pure 39 (f a) = true) (ha : ∀ a b, alike (f a) (f b) = true) (hn : ∀ a, ndNone (f a) = false) (hle : ∀ a b, dle (f a) (f b) = le a b)
    (hv : view M d = .lst (ts.map f) ∨ view M d = .tup (ts.map f)) (hl : ts.length ≤ line) : bfun .sorted false [d] M = .ok (.lst ((ts.mergeSort le).map f)) M := by
  have c : (D.pureL flatN (ts.map f) && allAlike (ts.map f) && (ts.map f).all (fun x => !ndNone x)) = true := by
    rw [flat_map hp, allAlike_map ha]
    simp [hn]
  have hr : newL false ((ts.map f).mergeSort dle) M = .ok (.lst ((ts.mergeSort le).map f)) M := by
    rw [sort_map hle]
    simp [newL, fits, hl]
  rcases hv with hv | hv <;> simp only [bfun, hv, c, if_true, hr]
/-! ### loops -/
theorem loop_run {body : D → Loc → Store → SR} {st : Store → Bool} {xs : List D} {L : Loc} {M : Store} (I : Nat → Loc → Store → Prop) (R : SR → Prop) (h0 : I 0 L M)
    (step : ∀ (i : Nat) (x : D) L1 M1, xs[i]? = some x → I i L1 M1 → match body x L1 M1 with
      | .nx L2 M2 => st M2 = true ∧ I (i + 1) L2 M2
      | .ct L2 M2 => st M2 = true ∧ I (i + 1) L2 M2
      | .bk L2 M2 => R (.nx L2 M2)
      | r => R r)
    (hend : ∀ L1 M1, I xs.length L1 M1 → R (.nx L1 M1)) : R (loopS body st xs L M) := by
  have key : ∀ (n i : Nat) L1 M1, i + n = xs.length → I i L1 M1 → R (loopS body st (xs.drop i) L1 M1) := by
    intro n
    induction n with
    | zero =>
      intro i L1 M1 hi h
      have : i = xs.length := by omega
      subst this
      rw [List.drop_length]
      exact hend _ _ h
    | succ n ih =>
      intro i L1 M1 hi h
      have hlt : i < xs.length := by omega
      rw [List.drop_eq_getElem_cons hlt]
      have s := step i xs[i] L1 M1 (List.getElem?_eq_getElem hlt) h
      unfold loopS
      cases q : body xs[i] L1 M1 with
      | nx L2 M2 =>
        rw [q] at s
        simp only [s.1, if_true]
        exact ih (i + 1) L2 M2 (by omega) s.2
      | ct L2 M2 =>
        rw [q] at s
        simp only [s.1, if_true]
        exact ih (i + 1) L2 M2 (by omega) s.2
      | bk L2 M2 => rw [q] at s; exact s
      | rt v M2 => rw [q] at s; exact s
      | exc x L2 M2 => rw [q] at s; exact s
      | bad => rw [q] at s; exact s
  exact key xs.length 0 L M (by omega) h0
/-- a loop that goes through -/
theorem loop_nx {body : D → Loc → Store → SR} {st : Store → Bool} {xs : List D} {L : Loc} {M : Store} (I : Nat → Loc → Store → Prop) (h0 : I 0 L M)
    (step : ∀ (i : Nat) (x : D) L1 M1, xs[i]? = some x → I i L1 M1 → ∃ L2 M2, (body x L1 M1 = .nx L2 M2 ∨ body x L1 M1 = .ct L2 M2) ∧ st M2 = true ∧ I (i + 1) L2 M2) :
    ∃ L1 M1, loopS body st xs L M = .nx L1 M1 ∧ I xs.length L1 M1 :=
  loop_run I (fun r => ∃ L1 M1, r = .nx L1 M1 ∧ I xs.length L1 M1) h0 (fun i x L1 M1 hi h => by
    obtain ⟨L2, M2, e, s, h2⟩ := step i x L1 M1 hi h
    rcases e with e | e <;> (rw [e]; exact ⟨s, h2⟩)) fun L1 M1 h => ⟨L1, M1, rfl, h⟩
end Lc
end

section
set_option autoImplicit false
set_option linter.all false
set_option Elab.async false
set_option maxRecDepth 100000
/-! Mev: the core run by simp (comprehensions and loops stay). -/
namespace Lc
open PySem hiding isTrue
section
variable {E : Fe} {L : Loc} {M : Store} {own : Bool}
theorem ev_slot {i : Nat} {d : D} (h : L[i]? = some (some d)) : evE E (.slot i) L M = .ok d M := by rw [evE, h]
@[simp] theorem ev_slot0 {d : Option D} : evE E (.slot 0) (d :: L) M = match d with | some d => .ok d M | none => .bad := by rw [evE]; cases d <;> rfl
@[simp] theorem ev_slotS {i : Nat} {d : Option D} : evE E (.slot (i + 1)) (d :: L) M = evE E (.slot i) L M := by simp [evE]
@[simp] theorem ev_lit {d : D} : evE E (.lit d) L M = .ok d M := by first | (rw [evE]; done) | (rw [evE]; rfl)
@[simp] theorem ev_glob {x : Str} {d : D} : evE E (.glob x d) L M = .ok d M := by first | (rw [evE]; done) | (rw [evE]; rfl)
@[simp] theorem ev_tup {es : List CE} : evE E (.tup es) L M = (evEs E es L M).bind newT := by first | (rw [evE]; done) | (rw [evE]; rfl)
@[simp] theorem ev_lst {es : List CE} : evE E (.lst own es) L M = (evEs E es L M).bind (newL own) := by first | (rw [evE]; done) | (rw [evE]; rfl)
@[simp] theorem ev_bin {op : BOp} {a b : CE} : evE E (.bin op own a b) L M = (evE E a L M).bind fun x M1 => (evE E b L M1).bind fun y M2 => binE E op own x y M2 := by first | (rw [evE]; done) | (rw [evE]; rfl)
@[simp] theorem ev_neg {a : CE} : evE E (.neg a) L M = (evE E a L M).bind fun x M1 => match x with | .int i => .ok (.int (-i)) M1 | _ => .bad := by first | (rw [evE]; done) | (rw [evE]; rfl)
@[simp] theorem ev_not {a : CE} : evE E (.not a) L M = (evE E a L M).bind fun x M1 => match truth M1 x with | some b => .ok (.bl (!b)) M1 | none => .bad := by first | (rw [evE]; done) | (rw [evE]; rfl)
@[simp] theorem ev_cmp {op : COp} {a b : CE} : evE E (.cmp op a b) L M = (evE E a L M).bind fun x M1 => (evE E b L M1).bind fun y M2 => cmpE E op x y M2 := by first | (rw [evE]; done) | (rw [evE]; rfl)
@[simp] theorem ev_cmp2 {op op' : COp} {a b c : CE} : evE E (.cmp2 op op' a b c) L M = (evE E a L M).bind fun x M1 => (evE E b L M1).bind fun y M2 => (cmpE E op x y M2).bind fun r M3 => match r with
    | .bl true => (evE E c L M3).bind fun z M4 => cmpE E op' y z M4
    | .bl false => .ok (.bl false) M3
    | _ => .bad := by first | (rw [evE]; done) | (rw [evE]; rfl)
@[simp] theorem ev_conj {es : List CE} : evE E (.conj es) L M = evConj E es L M := by first | (rw [evE]; done) | (rw [evE]; rfl)
@[simp] theorem ev_disj {es : List CE} : evE E (.disj es) L M = evDisj E es L M := by first | (rw [evE]; done) | (rw [evE]; rfl)
@[simp] theorem ev_ite {c a b : CE} : evE E (.ite c a b) L M = (evE E c L M).bind fun x M1 => match truth M1 x with
    | some true => evE E a L M1
    | some false => evE E b L M1
    | none => .bad := by first | (rw [evE]; done) | (rw [evE]; rfl)
@[simp] theorem ev_sub {a i : CE} : evE E (.sub a i) L M = (evE E a L M).bind fun x M1 => (evE E i L M1).bind fun y M2 => subE E x y M2 := by first | (rw [evE]; done) | (rw [evE]; rfl)
@[simp] theorem ev_cut {a : CE} {lo hi : Option CE} : evE E (.cut own a lo hi) L M = (evE E a L M).bind fun x M1 => (evO E lo L M1).bind fun l M2 => (evO E hi L M2).bind fun h M3 => slice own x l h M3 := by first | (rw [evE]; done) | (rw [evE]; rfl)
@[simp] theorem ev_rev {a : CE} : evE E (.rev own a) L M = (evE E a L M).bind fun x M1 => match view M1 x with
    | .lst xs => newL own xs.reverse M1
    | _ => .bad := by first | (rw [evE]; done) | (rw [evE]; rfl)
@[simp] theorem ev_fld {a : CE} {f : Str} : evE E (.fld a f) L M = (evE E a L M).bind fun x M1 => fldE E x f M1 := by first | (rw [evE]; done) | (rw [evE]; rfl)
@[simp] theorem ev_prop {a : CE} {f : Str} : evE E (.prop a f) L M = (evE E a L M).bind fun x M1 => match view M1 x with
    | .obj c _ _ => match E.prop c f with | some g => noexc (E.call g [x] M1) | none => .bad
    | _ => .bad := by first | (rw [evE]; done) | (rw [evE]; rfl)
@[simp] theorem ev_call {f : Nat} {es ks : List CE} {as : List (Nat ⊕ D)} : evE E (.call f es ks as) L M = (evEs E es L M).bind fun vs M1 => (evEs E ks L M1).bind fun us M2 => match argsOf (vs ++ us) as with
    | some ws => E.call f ws M2
    | none => .bad := by first | (rw [evE]; done) | (rw [evE]; rfl)
@[simp] theorem ev_meth {m : Str} {o : CE} {es ks : List CE} {as : List (Nat ⊕ D)} : evE E (.meth m o es ks as) L M = (evE E o L M).bind fun x M0 => match methOf E M0 x m with
    | some f => (evEs E es L M0).bind fun vs M1 => (evEs E ks L M1).bind fun us M2 => match argsOf (x :: vs ++ us) as with
      | some ws => E.call f ws M2
      | none => .bad
    | none => .bad := by first | (rw [evE]; done) | (rw [evE]; rfl)
@[simp] theorem ev_mk {c : Nat} {es ks : List CE} {as : List (Nat ⊕ D)} : evE E (.mk own c es ks as) L M = (evEs E es L M).bind fun vs M0 => (evEs E ks L M0).bind fun us M1 => makeE E own c as (vs ++ us) M1 := by first | (rw [evE]; done) | (rw [evE]; rfl)
@[simp] theorem ev_cmet {c : Nat} {m : Str} {es : List CE} {as : List (Nat ⊕ D)} : evE E (.cmet c m es as) L M = match E.cmet c m with
    | some f => (evEs E es L M).bind fun vs M1 => match argsOf (.cls c :: vs) as with
      | some ws => E.call f ws M1
      | none => .bad
    | none => .bad := by first | (rw [evE]; done) | (rw [evE]; rfl)
@[simp] theorem ev_mkL {i : Nat} {es : List CE} {as : List (Nat ⊕ D)} : evE E (.mkL own i es as) L M = match L[i]? with
    | some (some (.cls c)) => if (E.meth c sInit).isSome then (evEs E es L M).bind fun vs M1 => makeE E own c as vs M1 else .bad
    | _ => .bad := by first | (rw [evE]; done) | (rw [evE]; rfl)
@[simp] theorem ev_bf {f : BF} {es : List CE} : evE E (.bf f own es) L M = (evEs E es L M).bind fun vs M1 => bfD E f own vs M1 := by first | (rw [evE]; done) | (rw [evE]; rfl)
@[simp] theorem ev_bm {m : BM} {o : CE} {es : List CE} : evE E (.bm m own o es) L M = (evE E o L M).bind fun x M1 => if bmK m (view M1 x) then (evEs E es L M1).bind fun vs M2 => bmeth m own x vs M2 else .bad := by first | (rw [evE]; done) | (rw [evE]; rfl)
@[simp] theorem ev_frz {e : CE} : evE E (.frz e) L M = (evE E e L M).bind freeze := by first | (rw [evE]; done) | (rw [evE]; rfl)
@[simp] theorem ev_rng {es : List CE} : evE E (.rng es) L M = (evEs E es L M).bind fun vs M1 => match vs with
    | [.int n] => if n < 2 ^ 62 ∧ -(2 ^ 62) ≤ n then .ok (.lst (rangeD 0 n.toNat)) M1 else .bad
    | [.int a, .int b] => if a < 2 ^ 62 ∧ -(2 ^ 62) ≤ a ∧ b < 2 ^ 62 ∧ -(2 ^ 62) ≤ b then .ok (.lst (rangeD a (b - a).toNat)) M1 else .bad
    | _ => .bad := by first | (rw [evE]; done) | (rw [evE]; rfl)
@[simp] theorem ev_enum {e : CE} : evE E (.enum e) L M = (evE E e L M).bind fun x M1 => match x with
    | .lst xs => .ok (.lst (enumD 0 xs)) M1
    | _ => .bad := by first | (rw [evE]; done) | (rw [evE]; rfl)
@[simp] theorem ev_zip {a b : CE} : evE E (.zip a b) L M = (evE E a L M).bind fun x M1 => (evE E b L M1).bind fun y M2 => match x, y with
    | .lst xs, .lst ys => .ok (.lst (zipD xs ys)) M2
    | .tup xs, .tup ys => .ok (.lst (zipD xs ys)) M2
    | _, _ => .bad := by first | (rw [evE]; done) | (rw [evE]; rfl)
@[simp] theorem ev_fmt {es : List CE} : evE E (.fmt es) L M = evFm E es L M Str.empty := by first | (rw [evE]; done) | (rw [evE]; rfl)
@[simp] theorem ev_isi {a : CE} {cs : List TyC} : evE E (.isi a cs) L M = (evE E a L M).bind fun x M1 => .ok (.bl (cs.any (isi1 M1 x))) M1 := by first | (rw [evE]; done) | (rw [evE]; rfl)
@[simp] theorem evFm_nil {acc : Str} : evFm E [] L M acc = .ok (.str acc) M := by first | (rw [evFm]; done) | (rw [evFm]; rfl)
@[simp] theorem evFm_cons {e : CE} {es : List CE} {acc : Str} : evFm E (e :: es) L M acc = (evE E e L M).bind fun x M1 => match fmtT x with
    | some y => if (acc ++ y).length ≤ line then evFm E es L M1 (acc ++ y) else .bad
    | none => .bad := by first | (rw [evFm]; done) | (rw [evFm]; rfl)
@[simp] theorem evO_none : evO E none L M = .ok none M := by first | (rw [evO]; done) | (rw [evO]; rfl)
@[simp] theorem evO_some {e : CE} : evO E (some e) L M = (evE E e L M).bind fun x M1 => match x with
    | .int i => .ok (some i) M1
    | _ => .bad := by first | (rw [evO]; done) | (rw [evO]; rfl)
@[simp] theorem evEs_none : evEs E [] L M = .ok [] M := by first | (rw [evEs]; done) | (rw [evEs]; rfl)
@[simp] theorem evEs_star {e : CE} {es : List CE} : evEs E (.star e :: es) L M = (evE E e L M).bind fun x M1 => match Lc.items M1 x with
    | some xs => (evEs E es L M1).bind fun ys M2 => .ok (xs ++ ys) M2
    | none => .bad := by first | (rw [evEs]; done) | (rw [evEs]; rfl)
theorem evEs_one {e : CE} {es : List CE} (h : starC e = false) : evEs E (e :: es) L M = (evE E e L M).bind fun x M1 => (evEs E es L M1).bind fun ys M2 => .ok (x :: ys) M2 := evEs_c h
@[simp] theorem evEs_slot {i : Nat} {r : List CE} : evEs E (.slot i :: r) L M = (evE E (.slot i) L M).bind fun x M1 => (evEs E r L M1).bind fun ys M2 => .ok (x :: ys) M2 := evEs_c rfl
@[simp] theorem evEs_lit {d : D} {r : List CE} : evEs E (.lit d :: r) L M = (evE E (.lit d) L M).bind fun x M1 => (evEs E r L M1).bind fun ys M2 => .ok (x :: ys) M2 := evEs_c rfl
@[simp] theorem evEs_glob {x : Str} {d : D} {r : List CE} : evEs E (.glob x d :: r) L M = (evE E (.glob x d) L M).bind fun x M1 => (evEs E r L M1).bind fun ys M2 => .ok (x :: ys) M2 := evEs_c rfl
@[simp] theorem evEs_tup {es : List CE} {r : List CE} : evEs E (.tup es :: r) L M = (evE E (.tup es) L M).bind fun x M1 => (evEs E r L M1).bind fun ys M2 => .ok (x :: ys) M2 := evEs_c rfl
@[simp] theorem evEs_lst {o : Bool} {es : List CE} {r : List CE} : evEs E (.lst o es :: r) L M = (evE E (.lst o es) L M).bind fun x M1 => (evEs E r L M1).bind fun ys M2 => .ok (x :: ys) M2 := evEs_c rfl
@[simp] theorem evEs_bin {op : BOp} {o : Bool} {a b : CE} {r : List CE} : evEs E (.bin op o a b :: r) L M = (evE E (.bin op o a b) L M).bind fun x M1 => (evEs E r L M1).bind fun ys M2 => .ok (x :: ys) M2 := evEs_c rfl
@[simp] theorem evEs_neg {a : CE} {r : List CE} : evEs E (.neg a :: r) L M = (evE E (.neg a) L M).bind fun x M1 => (evEs E r L M1).bind fun ys M2 => .ok (x :: ys) M2 := evEs_c rfl
@[simp] theorem evEs_not {a : CE} {r : List CE} : evEs E (.not a :: r) L M = (evE E (.not a) L M).bind fun x M1 => (evEs E r L M1).bind fun ys M2 => .ok (x :: ys) M2 := evEs_c rfl
@[simp] theorem evEs_cmp {op : COp} {a b : CE} {r : List CE} : evEs E (.cmp op a b :: r) L M = (evE E (.cmp op a b) L M).bind fun x M1 => (evEs E r L M1).bind fun ys M2 => .ok (x :: ys) M2 := evEs_c rfl
@[simp] theorem evEs_cmp2 {op op' : COp} {a b c : CE} {r : List CE} : evEs E (.cmp2 op op' a b c :: r) L M = (evE E (.cmp2 op op' a b c) L M).bind fun x M1 => (evEs E r L M1).bind fun ys M2 => .ok (x :: ys) M2 := evEs_c rfl
@[simp] theorem evEs_conj {es : List CE} {r : List CE} : evEs E (.conj es :: r) L M = (evE E (.conj es) L M).bind fun x M1 => (evEs E r L M1).bind fun ys M2 => .ok (x :: ys) M2 := evEs_c rfl
@[simp] theorem evEs_disj {es : List CE} {r : List CE} : evEs E (.disj es :: r) L M = (evE E (.disj es) L M).bind fun x M1 => (evEs E r L M1).bind fun ys M2 => .ok (x :: ys) M2 := evEs_c rfl
@[simp] theorem evEs_ite {a b c : CE} {r : List CE} : evEs E (.ite a b c :: r) L M = (evE E (.ite a b c) L M).bind fun x M1 => (evEs E r L M1).bind fun ys M2 => .ok (x :: ys) M2 := evEs_c rfl
@[simp] theorem evEs_sub {a b : CE} {r : List CE} : evEs E (.sub a b :: r) L M = (evE E (.sub a b) L M).bind fun x M1 => (evEs E r L M1).bind fun ys M2 => .ok (x :: ys) M2 := evEs_c rfl
@[simp] theorem evEs_cut {o : Bool} {a : CE} {l h : Option CE} {r : List CE} : evEs E (.cut o a l h :: r) L M = (evE E (.cut o a l h) L M).bind fun x M1 => (evEs E r L M1).bind fun ys M2 => .ok (x :: ys) M2 := evEs_c rfl
@[simp] theorem evEs_rev {o : Bool} {a : CE} {r : List CE} : evEs E (.rev o a :: r) L M = (evE E (.rev o a) L M).bind fun x M1 => (evEs E r L M1).bind fun ys M2 => .ok (x :: ys) M2 := evEs_c rfl
@[simp] theorem evEs_fld {a : CE} {f : Str} {r : List CE} : evEs E (.fld a f :: r) L M = (evE E (.fld a f) L M).bind fun x M1 => (evEs E r L M1).bind fun ys M2 => .ok (x :: ys) M2 := evEs_c rfl
@[simp] theorem evEs_prop {a : CE} {f : Str} {r : List CE} : evEs E (.prop a f :: r) L M = (evE E (.prop a f) L M).bind fun x M1 => (evEs E r L M1).bind fun ys M2 => .ok (x :: ys) M2 := evEs_c rfl
@[simp] theorem evEs_call {f : Nat} {es ks : List CE} {as : List (Nat ⊕ D)} {r : List CE} : evEs E (.call f es ks as :: r) L M = (evE E (.call f es ks as) L M).bind fun x M1 => (evEs E r L M1).bind fun ys M2 => .ok (x :: ys) M2 := evEs_c rfl
@[simp] theorem evEs_meth {m : Str} {o : CE} {es ks : List CE} {as : List (Nat ⊕ D)} {r : List CE} : evEs E (.meth m o es ks as :: r) L M = (evE E (.meth m o es ks as) L M).bind fun x M1 => (evEs E r L M1).bind fun ys M2 => .ok (x :: ys) M2 := evEs_c rfl
@[simp] theorem evEs_mk {o : Bool} {c : Nat} {es ks : List CE} {as : List (Nat ⊕ D)} {r : List CE} : evEs E (.mk o c es ks as :: r) L M = (evE E (.mk o c es ks as) L M).bind fun x M1 => (evEs E r L M1).bind fun ys M2 => .ok (x :: ys) M2 := evEs_c rfl
@[simp] theorem evEs_mkL {o : Bool} {i : Nat} {es : List CE} {as : List (Nat ⊕ D)} {r : List CE} : evEs E (.mkL o i es as :: r) L M = (evE E (.mkL o i es as) L M).bind fun x M1 => (evEs E r L M1).bind fun ys M2 => .ok (x :: ys) M2 := evEs_c rfl
@[simp] theorem evEs_cmet {c : Nat} {m : Str} {es : List CE} {as : List (Nat ⊕ D)} {r : List CE} : evEs E (.cmet c m es as :: r) L M = (evE E (.cmet c m es as) L M).bind fun x M1 => (evEs E r L M1).bind fun ys M2 => .ok (x :: ys) M2 := evEs_c rfl
@[simp] theorem evEs_bf {f : BF} {o : Bool} {es : List CE} {r : List CE} : evEs E (.bf f o es :: r) L M = (evE E (.bf f o es) L M).bind fun x M1 => (evEs E r L M1).bind fun ys M2 => .ok (x :: ys) M2 := evEs_c rfl
@[simp] theorem evEs_bm {m : BM} {o : Bool} {a : CE} {es : List CE} {r : List CE} : evEs E (.bm m o a es :: r) L M = (evE E (.bm m o a es) L M).bind fun x M1 => (evEs E r L M1).bind fun ys M2 => .ok (x :: ys) M2 := evEs_c rfl
@[simp] theorem evEs_comp {o : Bool} {gs : List CG} {vs : List Nat} {a : CE} {r : List CE} : evEs E (.comp o gs vs a :: r) L M = (evE E (.comp o gs vs a) L M).bind fun x M1 => (evEs E r L M1).bind fun ys M2 => .ok (x :: ys) M2 := evEs_c rfl
@[simp] theorem evEs_frz {a : CE} {r : List CE} : evEs E (.frz a :: r) L M = (evE E (.frz a) L M).bind fun x M1 => (evEs E r L M1).bind fun ys M2 => .ok (x :: ys) M2 := evEs_c rfl
@[simp] theorem evEs_rng {es : List CE} {r : List CE} : evEs E (.rng es :: r) L M = (evE E (.rng es) L M).bind fun x M1 => (evEs E r L M1).bind fun ys M2 => .ok (x :: ys) M2 := evEs_c rfl
@[simp] theorem evEs_enum {a : CE} {r : List CE} : evEs E (.enum a :: r) L M = (evE E (.enum a) L M).bind fun x M1 => (evEs E r L M1).bind fun ys M2 => .ok (x :: ys) M2 := evEs_c rfl
@[simp] theorem evEs_zip {a b : CE} {r : List CE} : evEs E (.zip a b :: r) L M = (evE E (.zip a b) L M).bind fun x M1 => (evEs E r L M1).bind fun ys M2 => .ok (x :: ys) M2 := evEs_c rfl
@[simp] theorem evEs_isi {a : CE} {cs : List TyC} {r : List CE} : evEs E (.isi a cs :: r) L M = (evE E (.isi a cs) L M).bind fun x M1 => (evEs E r L M1).bind fun ys M2 => .ok (x :: ys) M2 := evEs_c rfl
@[simp] theorem evEs_fmt {es : List CE} {r : List CE} : evEs E (.fmt es :: r) L M = (evE E (.fmt es) L M).bind fun x M1 => (evEs E r L M1).bind fun ys M2 => .ok (x :: ys) M2 := evEs_c rfl
@[simp] theorem evConj1 {e : CE} : evConj E [e] L M = evE E e L M := by first | (rw [evConj]; done) | (rw [evConj]; rfl)
@[simp] theorem evConj_cons {e f : CE} {es : List CE} : evConj E (e :: f :: es) L M = (evE E e L M).bind fun x M1 => match truth M1 x with
    | some true => evConj E (f :: es) L M1
    | some false => .ok x M1
    | none => .bad := by
  rw [evConj] <;> first | rfl | (intro q; cases q)
@[simp] theorem evDisj1 {e : CE} : evDisj E [e] L M = evE E e L M := by first | (rw [evDisj]; done) | (rw [evDisj]; rfl)
@[simp] theorem evDisj_cons {e f : CE} {es : List CE} : evDisj E (e :: f :: es) L M = (evE E e L M).bind fun x M1 => match truth M1 x with
    | some true => .ok x M1
    | some false => evDisj E (f :: es) L M1
    | none => .bad := by
  rw [evDisj] <;> first | rfl | (intro q; cases q)
@[simp] theorem evIfs_nil : evIfs E [] L M = .ok true M := by first | (rw [evIfs]; done) | (rw [evIfs]; rfl)
@[simp] theorem evIfs_cons {c : CE} {cs : List CE} : evIfs E (c :: cs) L M = (evE E c L M).bind fun x M1 => match truth M1 x with
    | some true => evIfs E cs L M1
    | some false => .ok false M1
    | none => .bad := by first | (rw [evIfs]; done) | (rw [evIfs]; rfl)
/-! statements -/
@[simp] theorem es_exp {e : CE} : evS E (.exp e) L M = (evE E e L M).toS L fun _ M1 => .nx L M1 := by first | (rw [evS]; done) | (rw [evS]; rfl)
@[simp] theorem es_asg {t : CT} {e : CE} : evS E (.asg t e) L M = (evE E e L M).toS L fun v M1 => asgT E t v L M1 := by first | (rw [evS]; done) | (rw [evS]; rfl)
@[simp] theorem es_ret {e : CE} : evS E (.ret e) L M = (evE E e L M).toS L fun v M1 => .rt v M1 := by first | (rw [evS]; done) | (rw [evS]; rfl)
@[simp] theorem es_retN : evS E .retN L M = .rt .non M := by first | (rw [evS]; done) | (rw [evS]; rfl)
@[simp] theorem es_ite {c : CE} {a b : List CS} : evS E (.ite c a b) L M = (evE E c L M).toS L fun x M1 => match truth M1 x with
    | some true => evB E a L M1
    | some false => evB E b L M1
    | none => .bad := by first | (rw [evS]; done) | (rw [evS]; rfl)
theorem es_loop {p : Pat} {it : CE} {body : List CS} : evS E (.loop p it body) L M = (evE E it L M).toS L fun d M1 => match Lc.items M1 d with
    | some xs => loopS (fun x L1 M2 => match Pat.set p x M2 L1 with
        | some L2 => evB E body L2 M2
        | none => .bad) (still M1 d) xs L M1
    | none => .bad := by first | (rw [evS]; done) | (rw [evS]; rfl)
@[simp] theorem es_brk : evS E .brk L M = .bk L M := by first | (rw [evS]; done) | (rw [evS]; rfl)
@[simp] theorem es_cnt : evS E .cnt L M = .ct L M := by first | (rw [evS]; done) | (rw [evS]; rfl)
@[simp] theorem es_pass : evS E .pass L M = .nx L M := by first | (rw [evS]; done) | (rw [evS]; rfl)
@[simp] theorem es_aug {i : Nat} {op : BOp} {e : CE} : evS E (.aug i op e) L M = match L[i]? with
    | some (some (.int a)) => (evE E e L M).toS L fun y M1 => match augI op a y with
      | some z => .nx (L.set i (some z)) M1
      | none => .bad
    | _ => .bad := by first | (rw [evS]; done) | (rw [evS]; rfl)
@[simp] theorem eb_nil : evB E [] L M = .nx L M := by first | (rw [evB]; done) | (rw [evB]; rfl)
theorem eb_cons {s : CS} {ss : List CS} : evB E (s :: ss) L M = (evS E s L M).bind fun L1 M1 => evB E ss L1 M1 := by first | (rw [evB]; done) | (rw [evB]; rfl)
@[simp] theorem toS_ok {x : D} {f : D → Store → SR} : (Res.ok x M).toS L f = f x M := rfl
@[simp] theorem bind_nx {f : Loc → Store → SR} : (SR.nx L M).bind f = f L M := rfl
@[simp] theorem bind_rt {d : D} {f : Loc → Store → SR} : (SR.rt d M).bind f = .rt d M := rfl
@[simp] theorem bind_bk {f : Loc → Store → SR} : (SR.bk L M).bind f = .bk L M := rfl
@[simp] theorem bind_ct {f : Loc → Store → SR} : (SR.ct L M).bind f = .ct L M := rfl
@[simp] theorem outOf_rt {M0 : Store} {d : D} : outOf M0 (.rt d M) = trunc M0 d M := rfl
@[simp] theorem outOf_nx {M0 : Store} : outOf M0 (.nx L M) = trunc M0 .non M := rfl
@[simp] theorem noexc1 {α : Type} {x : α} : noexc (Res.ok x M) = .ok x M := rfl
@[simp] theorem asg_v {i : Nat} {v : D} : asgT E (.pat (.v i)) v L M = .nx (L.set i (some v)) M := rfl
@[simp] theorem set_v {i : Nat} {v : D} : Pat.set (.v i) v M L = some (L.set i (some v)) := rfl
@[simp] theorem set_t {ps : List Pat} {xs : List D} : Pat.set (.t ps) (.tup xs) M L = Pat.setL ps xs M L := by first | (rw [Pat.set]; done) | (rw [Pat.set]; rfl)
@[simp] theorem setL_nil : Pat.setL [] [] M L = some L := rfl
@[simp] theorem setL_cons {p : Pat} {ps : List Pat} {x : D} {xs : List D} : Pat.setL (p :: ps) (x :: xs) M L = match Pat.set p x M L with | some L1 => Pat.setL ps xs M L1 | none => none := rfl
@[simp] theorem truth_b {b : Bool} : truth M (.bl b) = some b := rfl
@[simp] theorem truth_i {i : Int} : truth M (.int i) = some (i != 0) := rfl
@[simp] theorem truth_n : truth M .non = some false := rfl
@[simp] theorem view_i {i : Int} : view M (.int i) = .int i := rfl
@[simp] theorem view_s {i : Str} : view M (.str i) = .str i := rfl
@[simp] theorem view_b {i : Bool} : view M (.bl i) = .bl i := rfl
@[simp] theorem view_nn : view M .non = .non := rfl
@[simp] theorem view_t {xs : List D} : view M (.tup xs) = .tup xs := rfl
@[simp] theorem view_l {xs : List D} : view M (.lst xs) = .lst xs := rfl
@[simp] theorem view_o {c : Nat} {ns : List Str} {xs : List D} : view M (.obj c ns xs) = .obj c ns xs := rfl
theorem view_at {n : Nat} {xs : List D} (h : M[n]? = some (.lst xs)) : view M (.loc n) = .lst xs := by simp only [view, h]
@[simp] theorem view_end {xs : List D} {B : Store} : view (M ++ .lst xs :: B) (.loc M.length) = .lst xs := view_at (get_end ..)
@[simp] theorem items_t {xs : List D} : Lc.items M (.tup xs) = some xs := rfl
@[simp] theorem items_l {xs : List D} : Lc.items M (.lst xs) = some xs := rfl
@[simp] theorem items_end {xs : List D} {B : Store} : Lc.items (M ++ .lst xs :: B) (.loc M.length) = some xs := by unfold Lc.items; rw [view_end]
@[simp] theorem argsOf_nil {vs : List D} : argsOf vs [] = some [] := rfl
@[simp] theorem argsOf_l {vs : List D} {i : Nat} {as : List (Nat ⊕ D)} : argsOf vs (.inl i :: as) = match vs[i]?, argsOf vs as with | some v, some ws => some (v :: ws) | _, _ => none := rfl
@[simp] theorem argsOf_r {vs : List D} {d : D} {as : List (Nat ⊕ D)} : argsOf vs (.inr d :: as) = (argsOf vs as).map (d :: ·) := rfl
@[simp] theorem wipe_nil : wipeL L [] = L := rfl
@[simp] theorem wipe_cons {v : Nat} {vs : List Nat} : wipeL L (v :: vs) = (wipeL L vs).set v none := rfl
theorem newT_ok {xs : List D} (h : xs.length ≤ line) : newT xs M = .ok (.tup xs) M := by simp [newT, fits, h]
theorem newL_ok {xs : List D} (h : xs.length ≤ line) : newL false xs M = .ok (.lst xs) M := by simp [newL, fits, h]
theorem newL_own {xs : List D} (h : xs.length ≤ line) : newL true xs M = .ok (.loc M.length) (M ++ [.lst xs]) := by simp [newL, fits, h]
@[simp] theorem newT_0 : newT [] M = .ok (.tup []) M := newT_ok (by decide)
@[simp] theorem newL_0 : newL false [] M = .ok (.lst []) M := newL_ok (by decide)
@[simp] theorem newL_0o : newL true [] M = .ok (.loc M.length) (M ++ [.lst []]) := newL_own (by decide)
@[simp] theorem newT_1 {a0 : D} : newT [a0] M = .ok (.tup [a0]) M := newT_ok (show 1 ≤ line by decide)
@[simp] theorem newL_1 {a0 : D} : newL false [a0] M = .ok (.lst [a0]) M := newL_ok (show 1 ≤ line by decide)
@[simp] theorem newL_1o {a0 : D} : newL true [a0] M = .ok (.loc M.length) (M ++ [.lst [a0]]) := newL_own (show 1 ≤ line by decide)
@[simp] theorem newT_2 {a0 a1 : D} : newT [a0, a1] M = .ok (.tup [a0, a1]) M := newT_ok (show 2 ≤ line by decide)
@[simp] theorem newL_2 {a0 a1 : D} : newL false [a0, a1] M = .ok (.lst [a0, a1]) M := newL_ok (show 2 ≤ line by decide)
@[simp] theorem newL_2o {a0 a1 : D} : newL true [a0, a1] M = .ok (.loc M.length) (M ++ [.lst [a0, a1]]) := newL_own (show 2 ≤ line by decide)
@[simp] theorem newT_3 {a0 a1 a2 : D} : newT [a0, a1, a2] M = .ok (.tup [a0, a1, a2]) M := newT_ok (show 3 ≤ line by decide)
@[simp] theorem newL_3 {a0 a1 a2 : D} : newL false [a0, a1, a2] M = .ok (.lst [a0, a1, a2]) M := newL_ok (show 3 ≤ line by decide)
@[simp] theorem newL_3o {a0 a1 a2 : D} : newL true [a0, a1, a2] M = .ok (.loc M.length) (M ++ [.lst [a0, a1, a2]]) := newL_own (show 3 ≤ line by decide)
@[simp] theorem newT_4 {a0 a1 a2 a3 : D} : newT [a0, a1, a2, a3] M = .ok (.tup [a0, a1, a2, a3]) M := newT_ok (show 4 ≤ line by decide)
@[simp] theorem newL_4 {a0 a1 a2 a3 : D} : newL false [a0, a1, a2, a3] M = .ok (.lst [a0, a1, a2, a3]) M := newL_ok (show 4 ≤ line by decide)
@[simp] theorem newL_4o {a0 a1 a2 a3 : D} : newL true [a0, a1, a2, a3] M = .ok (.loc M.length) (M ++ [.lst [a0, a1, a2, a3]]) := newL_own (show 4 ≤ line by decide)
@[simp] theorem newT_5 {a0 a1 a2 a3 a4 : D} : newT [a0, a1, a2, a3, a4] M = .ok (.tup [a0, a1, a2, a3, a4]) M := newT_ok (show 5 ≤ line by decide)
@[simp] theorem newL_5 {a0 a1 a2 a3 a4 : D} : newL false [a0, a1, a2, a3, a4] M = .ok (.lst [a0, a1, a2, a3, a4]) M := newL_ok (show 5 ≤ line by decide)
@[simp] theorem newL_5o {a0 a1 a2 a3 a4 : D} : newL true [a0, a1, a2, a3, a4] M = .ok (.loc M.length) (M ++ [.lst [a0, a1, a2, a3, a4]]) := newL_own (show 5 ≤ line by decide)
@[simp] theorem newT_6 {a0 a1 a2 a3 a4 a5 : D} : newT [a0, a1, a2, a3, a4, a5] M = .ok (.tup [a0, a1, a2, a3, a4, a5]) M := newT_ok (show 6 ≤ line by decide)
@[simp] theorem newL_6 {a0 a1 a2 a3 a4 a5 : D} : newL false [a0, a1, a2, a3, a4, a5] M = .ok (.lst [a0, a1, a2, a3, a4, a5]) M := newL_ok (show 6 ≤ line by decide)
@[simp] theorem newL_6o {a0 a1 a2 a3 a4 a5 : D} : newL true [a0, a1, a2, a3, a4, a5] M = .ok (.loc M.length) (M ++ [.lst [a0, a1, a2, a3, a4, a5]]) := newL_own (show 6 ≤ line by decide)
@[simp] theorem newT_7 {a0 a1 a2 a3 a4 a5 a6 : D} : newT [a0, a1, a2, a3, a4, a5, a6] M = .ok (.tup [a0, a1, a2, a3, a4, a5, a6]) M := newT_ok (show 7 ≤ line by decide)
@[simp] theorem newL_7 {a0 a1 a2 a3 a4 a5 a6 : D} : newL false [a0, a1, a2, a3, a4, a5, a6] M = .ok (.lst [a0, a1, a2, a3, a4, a5, a6]) M := newL_ok (show 7 ≤ line by decide)
@[simp] theorem newL_7o {a0 a1 a2 a3 a4 a5 a6 : D} : newL true [a0, a1, a2, a3, a4, a5, a6] M = .ok (.loc M.length) (M ++ [.lst [a0, a1, a2, a3, a4, a5, a6]]) := newL_own (show 7 ≤ line by decide)
theorem bools_map : ∀ bs : List Bool, bools (bs.map .bl) = some bs
  | [] => rfl
  | b :: bs => by simp [bools, bools_map bs]
theorem ints_map : ∀ bs : List Int, intsD (bs.map .int) = some bs
  | [] => rfl
  | b :: bs => by simp [intsD, ints_map bs]
end
@[simp] theorem trunc_int {M : Store} {i : Int} : trunc M (.int i) M = .ok (.int i) M := trunc_self rfl
@[simp] theorem trunc_bl {M : Store} {i : Bool} : trunc M (.bl i) M = .ok (.bl i) M := trunc_self rfl
@[simp] theorem trunc_str {M : Store} {i : Str} : trunc M (.str i) M = .ok (.str i) M := trunc_self rfl
@[simp] theorem trunc_non {M : Store} : trunc M .non M = .ok .non M := trunc_self rfl
@[simp] theorem trunc_inta {M B : Store} {i : Int} : trunc M (.int i) (M ++ B) = .ok (.int i) M := trunc_app rfl
@[simp] theorem trunc_bla {M B : Store} {i : Bool} : trunc M (.bl i) (M ++ B) = .ok (.bl i) M := trunc_app rfl
@[simp] theorem trunc_stra {M B : Store} {i : Str} : trunc M (.str i) (M ++ B) = .ok (.str i) M := trunc_app rfl
@[simp] theorem trunc_nona {M B : Store} : trunc M .non (M ++ B) = .ok .non M := trunc_app rfl
/-- a comprehension without a test, without effects -/
theorem comp_map {E : Fe} {p : Pat} {it : CE} {vars : List Nat} {e : CE} {L : Loc} {M M1 : Store} {d : D} {xs : List D} (f : D → D) (hit : evE E it L M = .ok d M1) (hx : Lc.items M1 d = some xs) (hl : xs.length ≤ line)
    (step : ∀ x ∈ xs, ∀ acc : List D, ∃ L1, Pat.set p x (M1 ++ [.lst acc]) (wipeL L vars) = some L1 ∧ evE E e L1 (M1 ++ [.lst acc]) = .ok (f x) (M1 ++ [.lst acc])) (hu : ∀ x ∈ xs, (f x).under M1.length = true) :
    evE E (.comp false [.mk p it []] vars e) L M = .ok (.lst (xs.map f)) M1 ∧ evE E (.comp true [.mk p it []] vars e) L M = .ok (.loc M1.length) (M1 ++ [.lst (xs.map f)]) := by
  have h := comp_pure (E := E) (ifs := []) (e := e) (fun x => some (f x)) hit hx hl (fun x hx acc => by
    obtain ⟨L1, e1, e2⟩ := step x hx acc
    exact ⟨L1, e1, by simp, fun v hv => ⟨[], by cases hv; simpa using e2, rfl⟩⟩) (fun x hx v hv => by cases hv; exact hu x hx)
  rw [List.filterMap_eq_map'] at h
  exact h
@[simp] theorem still_l {M1 M2 : Store} {xs : List D} : still M1 (.lst xs) M2 = true := rfl
@[simp] theorem still_t {M1 M2 : Store} {xs : List D} : still M1 (.tup xs) M2 = true := rfl
/-- for: what holds before each turn -/
theorem for_run {E : Fe} {p : Pat} {it : CE} {body : List CS} {L : Loc} {M M1 : Store} {d : D} {xs : List D} (hit : evE E it L M = .ok d M1) (hx : Lc.items M1 d = some xs) (I : Nat → Loc → Store → Prop) (R : SR → Prop) (h0 : I 0 L M1)
    (step : ∀ (i : Nat) (x : D) L1 M2, xs[i]? = some x → I i L1 M2 → ∃ L2, Pat.set p x M2 L1 = some L2 ∧ match evB E body L2 M2 with
      | .nx L3 M3 => still M1 d M3 = true ∧ I (i + 1) L3 M3
      | .ct L3 M3 => still M1 d M3 = true ∧ I (i + 1) L3 M3
      | .bk L3 M3 => R (.nx L3 M3)
      | r => R r)
    (hend : ∀ L1 M2, I xs.length L1 M2 → R (.nx L1 M2)) : R (evS E (.loop p it body) L M) := by
  rw [es_loop, hit]
  simp only [toS_ok, hx]
  refine loop_run I R h0 (fun i x L1 M2 hi h => ?_) hend
  obtain ⟨L2, e, h2⟩ := step i x L1 M2 hi h
  simp only [e]
  exact h2
theorem for_nx {E : Fe} {p : Pat} {it : CE} {body : List CS} {L : Loc} {M M1 : Store} {d : D} {xs : List D} (hit : evE E it L M = .ok d M1) (hx : Lc.items M1 d = some xs) (I : Nat → Loc → Store → Prop) (h0 : I 0 L M1)
    (step : ∀ (i : Nat) (x : D) L1 M2, xs[i]? = some x → I i L1 M2 → ∃ L2, Pat.set p x M2 L1 = some L2 ∧ ∃ L3 M3, (evB E body L2 M2 = .nx L3 M3 ∨ evB E body L2 M2 = .ct L3 M3) ∧ still M1 d M3 = true ∧ I (i + 1) L3 M3) :
    ∃ L' M', evS E (.loop p it body) L M = .nx L' M' ∧ I xs.length L' M' :=
  for_run hit hx I (fun r => ∃ L' M', r = .nx L' M' ∧ I xs.length L' M') h0 (fun i x L1 M2 hi h => by
    obtain ⟨L2, e, L3, M3, e2, h2⟩ := step i x L1 M2 hi h
    refine ⟨L2, e, ?_⟩
    rcases e2 with e2 | e2 <;> (rw [e2]; exact h2)) fun L1 M2 h => ⟨L1, M2, rfl, h⟩
/-- while: a number that falls -/
theorem while_run {c : Loc → Store → Res D} {body : Loc → Store → SR} (I : Loc → Store → Prop) (R : SR → Prop) (μ : Loc → Store → Nat)
    (step : ∀ L M, I L M → ∃ x M1, c L M = .ok x M1 ∧ ((truth M1 x = some true ∧ match body L M1 with
        | .nx L2 M2 => I L2 M2 ∧ μ L2 M2 < μ L M
        | .ct L2 M2 => I L2 M2 ∧ μ L2 M2 < μ L M
        | .bk L2 M2 => R (.nx L2 M2)
        | r => R r) ∨ (truth M1 x = some false ∧ R (.nx L M1)))) :
    ∀ (n : Nat) (L : Loc) (M : Store), μ L M < n → I L M → R (whileS c body n L M)
  | 0, _, _, h, _ => by omega
  | n + 1, L, M, h, hI => by
    obtain ⟨x, M1, e, h2⟩ := step L M hI
    unfold whileS
    rw [e]
    simp only [toS_ok]
    rcases h2 with ⟨e2, h2⟩ | ⟨e2, h2⟩
    · rw [e2]
      simp only
      cases q : body L M1 with
      | nx L2 M2 =>
        rw [q] at h2
        exact while_run I R μ step n L2 M2 (by have := h2.2; omega) h2.1
      | ct L2 M2 =>
        rw [q] at h2
        exact while_run I R μ step n L2 M2 (by have := h2.2; omega) h2.1
      | bk L2 M2 => rw [q] at h2; exact h2
      | rt v M2 => rw [q] at h2; exact h2
      | exc x L2 M2 => rw [q] at h2; exact h2
      | bad => rw [q] at h2; exact h2
    · rw [e2]
      exact h2
theorem es_whl {E : Fe} {c : CE} {body : List CS} {L : Loc} {M : Store} : evS E (.whl c body) L M = whileS (evE E c) (evB E body) turns L M := by rw [evS]
end Lc
end

section
set_option autoImplicit false
set_option linter.all false
set_option Elab.async false
set_option maxRecDepth 100000
/-! Mups: the program's up-sets. -/
namespace Mi
open Lc PySem
abbrev FE (G : Prg) (k : Nat) : Fe := ⟨callN G k, G.meth, G.fld, G.prop, G.cmet⟩
/-! ### plain -/
def geqI : List Int → List Int → Bool
  | x :: xs, y :: ys => decide (y ≤ x) && geqI xs ys
  | _, _ => true
theorem zip_ints : ∀ a b : List Int, zipD (a.map .int) (b.map .int) = (a.zip b).map fun p => .tup [.int p.1, .int p.2]
  | [], _ => rfl
  | _ :: _, [] => rfl
  | x :: xs, y :: ys => by simp [zipD, zip_ints xs ys]
theorem all_geq : ∀ a b : List Int, ((a.zip b).all fun p => decide (p.2 ≤ p.1)) = geqI a b
  | [], _ => rfl
  | _ :: _, [] => by simp [geqI]
  | x :: xs, y :: ys => by rw [List.zip_cons_cons, List.all_cons, all_geq xs ys]; rfl
def leastF (ts : List (List Int)) : List (List Int) := ts.foldl (fun found one => if found.any (geqI one) then found else found ++ [one]) []
def leastOf (ts : List (List Int)) : List (List Int) := leastF (ts.mergeSort leI)
theorem leastF_len (ts : List (List Int)) : (leastF ts).length ≤ ts.length := by
  have h : ∀ (ts f : List (List Int)), (ts.foldl (fun found one => if found.any (geqI one) then found else found ++ [one]) f).length ≤ f.length + ts.length := by
    intro ts
    induction ts with
    | nil => intro f; simp
    | cons t ts ih =>
      intro f
      rw [List.foldl_cons]
      refine Nat.le_trans (ih _) ?_
      split
      all_goals (simp only [List.length_append, List.length_cons, List.length_nil]; omega)
  have := h ts []
  simpa [leastF] using this
theorem leastF_step {ts : List (List Int)} {i : Nat} {x : List Int} (h : ts[i]? = some x) : leastF (ts.take (i + 1)) = if (leastF (ts.take i)).any (geqI x) then leastF (ts.take i) else leastF (ts.take i) ++ [x] := by
  have e : ts.take (i + 1) = ts.take i ++ [x] := by rw [List.take_add_one, h]; rfl
  rw [e]
  unfold leastF
  rw [List.foldl_append]
  rfl
theorem leastF_mem (ts : List (List Int)) : ∀ x ∈ leastF ts, x ∈ ts := by
  have h : ∀ (ts f : List (List Int)), ∀ x ∈ (ts.foldl (fun found one => if found.any (geqI one) then found else found ++ [one]) f), x ∈ f ∨ x ∈ ts := by
    intro ts
    induction ts with
    | nil => intro f x hx; exact .inl hx
    | cons t ts ih =>
      intro f x hx
      rw [List.foldl_cons] at hx
      rcases ih _ x hx with h | h
      · split at h
        · exact .inl h
        · rcases List.mem_append.mp h with h | h
          · exact .inl h
          · exact .inr (by simp at h; simp [h])
      · exact .inr (.tail _ h)
  intro x hx
  rcases h ts [] x hx with h | h
  · cases h
  · exact h
theorem leastOf_len (ts : List (List Int)) : (leastOf ts).length ≤ ts.length := by
  have := leastF_len (ts.mergeSort leI)
  rw [List.length_mergeSort] at this
  exact this
theorem leastOf_mem {ts : List (List Int)} {x : List Int} (h : x ∈ leastOf ts) : x ∈ ts := List.mem_mergeSort.mp (leastF_mem _ x h)
def smallF (ts : List (List Int)) : Option (List Int) := ts.foldl (fun f one => match f with | none => some one | some g => if one.sum < g.sum then some one else some g) none
def oD : Option (List Int) → D
  | none => .non
  | some t => dT t
/-! ### the defs -/
def upD (w : Int) (ls : List (List Int)) : D := .obj 10 ["places", "least"] [.int w, .lst (ls.map dT)]
structure Ups (G : Prg) : Prop where
  f9 : G.fn 9 = some Fc_counted
  f31 : G.fn 31 = some Fc_is_at_least
  f32 : G.fn 32 = some Fc_least_of
  f33 : G.fn 33 = some Fc_UpSet___init__
  f34 : G.fn 34 = some Fc_UpSet_full
  f35 : G.fn 35 = some Fc_UpSet_width
  f36 : G.fn 36 = some Fc_UpSet_corners
  f37 : G.fn 37 = some Fc_UpSet_smallest
  f39 : G.fn 39 = some Fc_UpSet___contains__
  f43 : G.fn 43 = some Fc_UpSet___len__
  f45 : G.fn 45 = some Fc_UpSet___str__
  f46 : G.fn 46 = some Fc_UpSet___repr__
  mi : G.meth 10 sInit = some 33
  mc : G.meth 10 "corners" = some 36
  ms : G.meth 10 "smallest" = some 37
  mn : G.meth 10 sIn = some 39
  ml : G.meth 10 sLen = some 43
  mt : G.meth 10 sStr = some 45
  mr : G.meth 10 sRepr = some 46
  pw : G.prop 10 "width" = some 35
  cf : G.cmet 10 "full" = some 34
  a1 : G.fld 10 "places" = true
  a2 : G.fld 10 "least" = true
section
variable {G : Prg} {k : Nat} {M : Store}
theorem is_at_least (h : Ups G) (a b : List Int) (hl : a.length ≤ line) : callN G (k + 1) 31 [dT a, dT b] M = .ok (.bl (geqI a b)) M := by
  have hc : evE (FE G k) c_is_at_least_c0 [some (dT a), some (dT b), none, none] M = .ok (.lst (((a.zip b).map fun p => decide (p.2 ≤ p.1)).map .bl)) M := by
    have h := (comp_map (E := FE G k) (p := .t [.v 2, .v 3]) (vars := [2, 3]) (e := .cmp .ge (.slot 2) (.slot 3)) (L := [some (dT a), some (dT b), none, none]) (M := M) (it := .zip (.slot 0) (.slot 1))
      (fun x => match x with | .tup [.int x, .int y] => .bl (decide (y ≤ x)) | _ => .non) (by simp [zip_ints]; exact ⟨rfl, rfl⟩) rfl (by simp; omega) (fun x hx acc => by
      obtain ⟨p, _, rfl⟩ := List.mem_map.mp hx
      simp [cmpE, cmpop]) (fun x hx => by
      obtain ⟨p, _, rfl⟩ := List.mem_map.mp hx
      simp)).1
    rw [h]
    simp [Function.comp_def]
  rw [callN_fn h.f31 rfl]
  simp [Fc_is_at_least, c_is_at_least, eb_cons, hc, bfD, bfun, litems, bools_map, -List.map_map, all_geq]
/-- any(is_at_least(t, c) for c in ..), as a comprehension's list -/
theorem geq_list (h : Ups G) {it : CE} {i j : Nat} {L : Lc.Loc} {M1 : Store} {d : D} {t : List Int} {F : List (List Int)} (ht : t.length ≤ line) (hF : F.length ≤ line) (hit : evE (FE G (k + 1)) it L M = .ok d M1) (hx : Lc.items M1 d = some (F.map dT)) (hi : i ≠ j) (hL : L[i]? = some (some (dT t))) (hj : j < L.length) :
    evE (FE G (k + 1)) (.comp false [.mk (.v j) it []] [j] (.call 31 [.slot i, .slot j] [] [.inl 0, .inl 1])) L M = .ok (.lst ((F.map (geqI t)).map .bl)) M1 := by
  have h := (comp_map (E := FE G (k + 1)) (p := .v j) (vars := [j]) (e := .call 31 [.slot i, .slot j] [] [.inl 0, .inl 1]) (L := L) (it := it)
    (fun x => match x with | .tup xs => .bl (geqI t (xs.filterMap fun | .int i => some i | _ => none)) | _ => .non) hit hx (by simpa using hF) (fun x hx acc => by
    obtain ⟨p, _, rfl⟩ := List.mem_map.mp hx
    have e1 : evE (FE G (k + 1)) (.slot i) (L.set j (some (dT p))) (M1 ++ [.lst acc]) = .ok (dT t) (M1 ++ [.lst acc]) := ev_slot (by rw [List.getElem?_set_ne (Ne.symm hi)]; exact hL)
    have e2 : evE (FE G (k + 1)) (.slot j) (L.set j (some (dT p))) (M1 ++ [.lst acc]) = .ok (dT p) (M1 ++ [.lst acc]) := ev_slot (List.getElem?_set_self hj)
    refine ⟨_, rfl, ?_⟩
    simp [e1, e2, is_at_least h t p ht, Function.comp_def]) (fun x hx => by
    obtain ⟨p, _, rfl⟩ := List.mem_map.mp hx
    simp)).1
  rw [h]
  simp [Function.comp_def]
theorem least_of (h : Ups G) {d : D} {ts : List (List Int)} (hv : ∀ B, view (M ++ B) d = .lst (ts.map dT) ∨ view (M ++ B) d = .tup (ts.map dT)) (hl : ts.length ≤ line) (hw : ∀ t ∈ ts, t.length ≤ line) : callN G (k + 2) 32 [d] M = .ok (.lst ((leastOf ts).map dT)) M := by
  have hsl : ((ts.mergeSort leI)).length = ts.length := List.length_mergeSort ts
  have hs : evE (FE G (k + 1)) (.bf .sorted false [.slot 0]) [some d, some (.loc M.length), none, none] (M ++ [.lst []]) = .ok (.lst ((ts.mergeSort leI).map dT)) (M ++ [.lst []]) := by
    have := sorted_map (M := M ++ [.lst []]) (fun a => pure_dT 38 a) alike_dT (fun _ => rfl) dle_dT (hv [.lst []]) hl
    simp [bfD, this]
  obtain ⟨L1, M1, e1, ⟨a, b, rfl⟩, rfl⟩ := for_nx (p := .v 2) (body := [.ite (.not (.bf .any false [c_least_of_c0])) [.exp (.bm .append true (.slot 1) [.slot 2])] []]) hs rfl
    (fun i L1 M1 => (∃ a b, L1 = [some d, some (.loc M.length), a, b]) ∧ M1 = M ++ [.lst ((leastF ((ts.mergeSort leI).take i)).map dT)]) ⟨⟨_, _, rfl⟩, rfl⟩ (fun i x L1 M1 hx hI => by
      obtain ⟨⟨a, b, rfl⟩, rfl⟩ := hI
      rw [List.getElem?_map] at hx
      obtain ⟨t, ht, rfl⟩ := Option.map_eq_some_iff.mp hx
      have hm : t ∈ ts := (List.mem_mergeSort.mp (List.mem_of_getElem? ht))
      have hstep := leastF_step ht
      have hlen : (leastF ((ts.mergeSort leI).take i)).length ≤ i := Nat.le_trans (leastF_len _) (by rw [List.length_take]; omega)
      have hi := (List.getElem?_eq_some_iff.mp ht).1
      generalize hf : leastF ((ts.mergeSort leI).take i) = F at *
      have hc : evE (FE G (k + 1)) c_least_of_c0 [some d, some (.loc M.length), some (dT t), b] (M ++ [.lst (F.map dT)]) = .ok (.lst ((F.map (geqI t)).map .bl)) (M ++ [.lst (F.map dT)]) :=
        geq_list h (it := .slot 1) (i := 2) (j := 3) (hw t hm) (by omega) (by simp) items_end (by decide) rfl (by simp)
      refine ⟨_, rfl, ?_⟩
      cases hb : F.any (geqI t) with
      | true =>
        refine ⟨[some d, some (.loc M.length), some (dT t), b], M ++ [.lst (F.map dT)], .inl ?_, rfl, ⟨_, _, rfl⟩, ?_⟩
        · simp [eb_cons, hc, bfD, bfun, litems, bools_map, -List.map_map, hb]
        · rw [hstep, if_pos hb]
      | false =>
        refine ⟨[some d, some (.loc M.length), some (dT t), b], M ++ [.lst ((F ++ [t]).map dT)], .inl ?_, rfl, ⟨_, _, rfl⟩, ?_⟩
        · have : F.length < line := by omega
          simp [eb_cons, hc, bfD, bfun, litems, bools_map, -List.map_map, hb, bmK, bmeth, this]
        · rw [hstep, if_neg (by rw [hb]; decide)])
  rw [callN_fn h.f32 rfl]
  have hf : List.take ((ts.mergeSort leI).map dT).length (ts.mergeSort leI) = ts.mergeSort leI := by rw [List.length_map, List.take_length]
  rw [hf] at e1
  have hu : D.underL M.length ((leastOf ts).map dT) = true := underL_map (fun a => under_dT _ a) _
  simp [Fc_least_of, c_least_of, eb_cons, e1, freeze]
  rw [trunc_app (by rw [under_lst]; exact hu)]
  rfl
end
end Mi
end

section
set_option autoImplicit false
set_option linter.all false
set_option Elab.async false
set_option maxRecDepth 100000
/-! Mup2: the program's up-sets, the class. -/
namespace Mi
open Lc PySem
@[simp] theorem underL_ints (n : Nat) (xs : List Int) : D.underL n (xs.map .int) = true := underL_map (fun _ => rfl) xs
/-! ### texts -/
theorem ofString_len (s : String) : (Str.ofString s).length = s.length := by
  rw [Str.ofString_eq_toList]
  simp only [Str.length, List.size_toArray, List.length_map]
  first | exact String.length_toList | rfl | simp
abbrev strI (i : Int) : Str := Str.ofString (toString i)
theorem strI_len {i : Int} {k : Nat} (hk : 0 < k) (h : i.natAbs < 10 ^ k) : (strI i).length ≤ k + 1 := by
  rw [ofString_len]
  exact int_text_length_le10 hk h
theorem log_small {i : Int} (h : i.natAbs < 10 ^ 30) : i.natAbs.log2 < 1920 := by
  by_cases h0 : i.natAbs = 0
  · rw [h0]; decide
  · rw [Nat.log2_lt h0]
    exact Nat.lt_of_lt_of_le (Nat.lt_of_lt_of_le h (show 10 ^ 30 ≤ 2 ^ 100 by decide)) (Nat.pow_le_pow_right (by decide) (by decide))
theorem len_app (a b : Str) : (a ++ b).length = a.length + b.length := by simp [Str.length, show (a ++ b).cps = a.cps ++ b.cps from rfl]
theorem cps_app (a b : Str) : (a ++ b).cps = a.cps ++ b.cps := rfl
theorem str_ext {a b : Str} (h : a.cps = b.cps) : a = b := by cases a; cases b; simp only at h; rw [h]
theorem app_assoc (a b c : Str) : a ++ b ++ c = a ++ (b ++ c) := str_ext (by simp [cps_app])
theorem empty_app (a : Str) : Str.empty ++ a = a := str_ext (by simp [cps_app, Str.empty])
@[simp] theorem fmt_int {i : Int} (h : i.natAbs.log2 < 1920) : fmtT (.int i) = some (strI i) := by simp only [fmtT, h, if_true]
theorem fmt_str {s : Str} (h : s.length ≤ line) : fmtT (.str s) = some s := by simp [fmtT, h]
def countT (n : Int) (w : Str) : Str := if n = 1 then strI n ++ " " ++ w else strI n ++ " " ++ w ++ "s"
section
variable {G : Prg} {k : Nat} {M : Store}
theorem counted (h : Ups G) {n : Int} {w : Str} (hn : n.natAbs < 10 ^ 30) (hw : w.length ≤ 1000) : callN G (k + 1) 9 [.int n, .str w] M = .ok (.str (countT n w)) M := by
  rw [callN_fn h.f9 rfl]
  have h1 := log_small hn
  have h2 := strI_len (i := n) (k := 30) (by decide) hn
  have hsp : (Str.ofString " ").length = 1 := rfl
  have hss : (Str.ofString "s").length = 1 := rfl
  have l0 : line = 16777216 := rfl
  have e1 : fmtT (.str (Str.ofString " ")) = some (Str.ofString " ") := fmt_str (by rw [hsp]; decide)
  have e2 : fmtT (.str (Str.ofString "s")) = some (Str.ofString "s") := fmt_str (by rw [hss]; decide)
  have e3 : fmtT (.str w) = some w := fmt_str (by omega)
  have b1 : (strI n).length ≤ line := by omega
  have b2 : (strI n ++ Str.ofString " ").length ≤ line := by rw [len_app]; omega
  have b3 : (strI n ++ Str.ofString " " ++ w).length ≤ line := by rw [len_app, len_app]; omega
  have b4 : (strI n ++ Str.ofString " " ++ w ++ Str.ofString "s").length ≤ line := by rw [len_app, len_app, len_app]; omega
  by_cases hn1 : n = 1
  · subst hn1
    simp [Fc_counted, c_counted, eb_cons, cmpE, cmpop, flatN, e1, e3, empty_app, b1, b2, b3, countT, fmt_int h1]
  · simp [Fc_counted, c_counted, eb_cons, cmpE, cmpop, flatN, hn1, e1, e2, e3, empty_app, b1, b2, b3, b4, countT, fmt_int h1]
theorem sameU_last (n : Nat) (a b : AO) (hb : b.under n = true) : ∀ A : Store, sameU n (A ++ [a]) (A ++ [b]) = true
  | [] => by simp [sameU, hb]
  | x :: A => by simp [sameU, sameU_last n a b hb A]
theorem trunc_last {M : Store} {a b : AO} {v : D} (hv : v.under (M.length + 1) = true) (hb : b.under (M.length + 1) = true) : trunc (M ++ [a]) v (M ++ [b]) = .ok v (M ++ [b]) := by
  unfold trunc
  rw [List.length_append, List.length_singleton, hv, sameU_last _ _ _ hb]
  simp only [Bool.and_self, if_true]
  rw [List.take_of_length_le (by simp)]
theorem init_up (h : Ups G) {d : D} {w : Int} {ts : List (List Int)} (hv : ∀ B, view (M ++ B) d = .lst (ts.map dT) ∨ view (M ++ B) d = .tup (ts.map dT)) (hl : ts.length ≤ line) (hw : ∀ t ∈ ts, t.length ≤ line) :
    callN G (k + 3) 33 [.loc M.length, .int w, d] (M ++ [.obj 10 [] []]) = .ok .non (M ++ [.obj 10 ["places", "least"] [.int w, .lst ((leastOf ts).map dT)]]) := by
  rw [callN_fn h.f33 rfl]
  have hlo := least_of (k := k) h (M := M ++ [.obj 10 ["places"] [.int w]]) (d := d) (ts := ts) (fun B => by rw [List.append_assoc]; exact hv _) hl hw
  have ne : ¬ (Str.ofString "places" = Str.ofString "least") := by decide
  simp [Fc_UpSet___init__, c_UpSet___init__, eb_cons, asgT, setFld, h.a1, h.a2, putF, hlo, ne]
  exact trunc_last rfl (by simp [AO.under, underL_map (fun a => under_dT _ a)])
@[simp] theorem under_up (n : Nat) (w : Int) (ls : List (List Int)) : D.under n (upD w ls) = true := by simp [upD, underL_map (fun a => under_dT _ a)]
@[simp] theorem view_up (w : Int) (ls : List (List Int)) : view M (upD w ls) = upD w ls := rfl
/-- UpSet(w, d) -/
theorem mk_up (h : Ups G) {d : D} {w : Int} {ts : List (List Int)} {as : List (Nat ⊕ D)} {vs : List D} (ha : argsOf (.loc M.length :: vs) as = some [.loc M.length, .int w, d]) (hv : ∀ B, view (M ++ B) d = .lst (ts.map dT) ∨ view (M ++ B) d = .tup (ts.map dT)) (hl : ts.length ≤ line) (hw : ∀ t ∈ ts, t.length ≤ line) :
    makeE (FE G (k + 3)) false 10 as vs M = .ok (upD w (leastOf ts)) M := by
  unfold makeE
  simp only [h.mi, ha, init_up h hv hl hw, Res.bind_ok, madeE, get_end, Bool.false_eq_true, if_false, set_end]
  exact trunc_app (under_up _ w (leastOf ts))
theorem fld_places (h : Ups G) {w : Int} {ls : List (List Int)} : fldE (FE G k) (upD w ls) "places" M = .ok (.int w) M := by
  simp [fldE, upD, h.a1, lookF]
theorem fld_least (h : Ups G) {w : Int} {ls : List (List Int)} : fldE (FE G k) (upD w ls) "least" M = .ok (.lst (ls.map dT)) M := by
  have ne : ¬ (Str.ofString "places" = Str.ofString "least") := by decide
  simp [fldE, upD, h.a2, lookF, ne]
theorem width_up (h : Ups G) {w : Int} {ls : List (List Int)} : callN G (k + 1) 35 [upD w ls] M = .ok (.int w) M := by
  rw [callN_fn h.f35 rfl]
  simp [Fc_UpSet_width, c_UpSet_width, eb_cons, fld_places h]
theorem corners_up (h : Ups G) {w : Int} {ls : List (List Int)} (hl : ls.length ≤ line) : callN G (k + 1) 36 [upD w ls] M = .ok (.loc M.length) (M ++ [.lst (ls.map dT)]) := by
  rw [callN_fn h.f36 rfl]
  simp [Fc_UpSet_corners, c_UpSet_corners, eb_cons, fld_least h, bfD, bfun, newL, fits, hl, trunc, D.under]
theorem contains_up (h : Ups G) {w : Int} {ls : List (List Int)} {t : List Int} (ht : t.length ≤ line) (hl : ls.length ≤ line) : callN G (k + 2) 39 [upD w ls, dT t] M = .ok (.bl (ls.any (geqI t))) M := by
  rw [callN_fn h.f39 rfl]
  have hc : evE (FE G (k + 1)) c_UpSet___contains___c0 [some (upD w ls), some (dT t), none] M = .ok (.lst ((ls.map (geqI t)).map .bl)) M :=
    geq_list h (it := .fld (.slot 0) "least") (i := 1) (j := 2) ht hl (by simp [fld_least h]; first | rfl | exact ⟨rfl, rfl⟩) rfl (by decide) rfl (by simp)
  simp [Fc_UpSet___contains__, c_UpSet___contains__, eb_cons, hc, bfD, bfun, litems, bools_map, -List.map_map]
theorem len_up (h : Ups G) {w : Int} {ls : List (List Int)} (hl : ls.length ≤ line) : callN G (k + 1) 43 [upD w ls] M = .ok (.int ls.length) M := by
  rw [callN_fn h.f43 rfl]
  simp [Fc_UpSet___len__, c_UpSet___len__, eb_cons, fld_least h, bfD, bfun]
theorem repr_up (h : Ups G) {w : Int} {ls : List (List Int)} (hl : ls.length ≤ line) : callN G (k + 2) 46 [upD w ls] M = .ok (.str ("UpSet(" ++ countT ls.length "corner" ++ ")")) M := by
  have hb : ((ls.length : Nat) : Int).natAbs < 10 ^ 30 := by
    have : line = 16777216 := rfl
    have e : (10 : Nat) ^ 30 = 1000000000000000000000000000000 := by decide
    omega
  have hc := counted (k := k) (M := M) h hb (w := "corner") (by decide)
  have h2 := strI_len (i := (ls.length : Int)) (k := 30) (by decide) hb
  have hlen : (countT (ls.length : Int) "corner").length ≤ 60 := by
    have q1 : (Str.ofString " ").length = 1 := rfl
    have q2 : (Str.ofString "corner").length = 6 := rfl
    have q3 : (Str.ofString "s").length = 1 := rfl
    unfold countT
    split <;> simp only [len_app] <;> omega
  rw [callN_fn h.f46 rfl]
  have l0 : line = 16777216 := rfl
  have q1 : (Str.ofString "UpSet(").length = 6 := rfl
  have q2 : (Str.ofString ")").length = 1 := rfl
  have e1 : fmtT (.str (Str.ofString "UpSet(")) = some (Str.ofString "UpSet(") := fmt_str (by rw [q1]; decide)
  have e2 : fmtT (.str (Str.ofString ")")) = some (Str.ofString ")") := fmt_str (by rw [q2]; decide)
  have e3 : fmtT (.str (countT (ls.length : Int) "corner")) = some (countT (ls.length : Int) "corner") := fmt_str (by omega)
  have b1 : (Str.ofString "UpSet(").length ≤ line := by rw [q1]; decide
  have b2 : (Str.ofString "UpSet(" ++ countT (ls.length : Int) "corner").length ≤ line := by rw [len_app]; omega
  have b3 : (Str.ofString "UpSet(" ++ countT (ls.length : Int) "corner" ++ Str.ofString ")").length ≤ line := by rw [len_app, len_app]; omega
  simp [Fc_UpSet___repr__, c_UpSet___repr__, eb_cons, fld_least h, bfD, bfun, hc, e1, e2, e3, empty_app, b1, b2, b3]
/-- the corner with the least sum -/
theorem small_step {ts : List (List Int)} {i : Nat} {x : List Int} (h : ts[i]? = some x) : smallF (ts.take (i + 1)) = match smallF (ts.take i) with | none => some x | some g => if x.sum < g.sum then some x else some g := by
  have e : ts.take (i + 1) = ts.take i ++ [x] := by rw [List.take_add_one, h]; rfl
  rw [e]
  unfold smallF
  rw [List.foldl_append]
  rfl
theorem smallest_up (h : Ups G) {w : Int} {ls : List (List Int)} : callN G (k + 1) 37 [upD w ls] M = .ok (oD (smallF ls)) M := by
  rw [callN_fn h.f37 rfl]
  obtain ⟨L1, M1, e1, ⟨a, rfl⟩, rfl⟩ := for_nx (E := FE G k) (p := .v 2) (it := .fld (.slot 0) "least") (L := [some (upD w ls), some .non, none]) (M := M) (xs := ls.map dT)
    (body := [.ite (.disj [.cmp .is (.slot 1) (.lit .non), .cmp .lt (.bf .sum false [.slot 2]) (.bf .sum false [.slot 1])]) [.asg (.pat (.v 1)) (.slot 2)] []]) (by simp [fld_least h]; first | rfl | exact ⟨rfl, rfl⟩) rfl
    (fun i L1 M1 => (∃ a, L1 = [some (upD w ls), some (oD (smallF (ls.take i))), a]) ∧ M1 = M) ⟨⟨_, rfl⟩, rfl⟩ (fun i x L1 M1 hx hI => by
      obtain ⟨⟨a, rfl⟩, hM⟩ := hI
      rw [hM]
      rw [List.getElem?_map] at hx
      obtain ⟨t, ht, rfl⟩ := Option.map_eq_some_iff.mp hx
      have hs := small_step ht
      refine ⟨_, rfl, [some (upD w ls), some (oD (smallF (ls.take (i + 1)))), some (dT t)], M, .inl ?_, rfl, ⟨_, rfl⟩, rfl⟩
      rw [hs]
      cases hg : smallF (ls.take i) with
      | none => simp [eb_cons, oD, cmpE, cmpop]
      | some g =>
        by_cases hb : t.sum < g.sum
        · simp [eb_cons, oD, cmpE, cmpop, bfD, bfun, ints_map, hb]
        · simp [eb_cons, oD, cmpE, cmpop, bfD, bfun, ints_map, hb])
  rw [List.length_map, List.take_length] at e1
  simp [Fc_UpSet_smallest, c_UpSet_smallest, eb_cons, e1]
  exact trunc_self (by cases smallF ls <;> simp [oD])

theorem leastOf_one (t : List Int) : leastOf [t] = [t] := by simp [leastOf, leastF]
theorem zeros (w : Int) : (List.replicate w.toNat [D.int 0]).flatten = (List.replicate w.toNat 0).map D.int := by
  induction w.toNat with
  | zero => rfl
  | succ n ih => rw [List.replicate_succ, List.flatten_cons, ih, List.replicate_succ]; rfl
theorem mul_zeros {w : Int} (h0 : 0 ≤ w) (h1 : w ≤ 1000) : binop .mul false (.tup [.int 0]) (.int w) M = .ok (dT (List.replicate w.toNat 0)) M := by
  have this : ((List.replicate w.toNat 0).map D.int).length ≤ line := by
    simp only [List.length_map, List.length_replicate]
    have : line = 16777216 := rfl
    omega
  have c : -1000 ≤ w ∧ w ≤ 1000 ∧ [D.int 0].length ≤ 1000 := ⟨by omega, h1, by decide⟩
  simp only [binop, view_t, view_i, c, and_self, if_true, zeros, newT_ok this]
theorem full_up (h : Ups G) {w : Int} (h0 : 0 ≤ w) (h1 : w ≤ 1000) : callN G (k + 4) 34 [.cls 10, .int w] M = .ok (upD w [List.replicate w.toNat 0]) M := by
  rw [callN_fn h.f34 rfl]
  have hm := mk_up (k := k) (M := M) h (d := .lst [dT (List.replicate w.toNat 0)]) (w := w) (ts := [List.replicate w.toNat 0]) (as := [.inl 0, .inl 1, .inl 2]) (vs := [.int w, .lst [dT (List.replicate w.toNat 0)]]) rfl (fun B => .inl rfl) (show 1 ≤ line by decide) (fun t ht => by
    rw [List.mem_singleton.mp ht, List.length_replicate]
    have : line = 16777216 := rfl
    omega)
  rw [leastOf_one] at hm
  have hn : newL false [dT (List.replicate w.toNat 0)] M = .ok (.lst [dT (List.replicate w.toNat 0)]) M := newL_1
  simp [Fc_UpSet_full, c_UpSet_full, eb_cons, h.mi, binE, mul_zeros h0 h1, hn, hm, trunc_self]
/-! ### str -/
def shT (t : List Int) : Str := PyData.shown (D.pd (dT t))
theorem shown_ints : ∀ xs : List Int, PyData.shownAll (xs.map .int) = xs.map strI
  | [] => rfl
  | x :: xs => by simp only [List.map_cons, PyData.shownAll, PyData.shown, shown_ints xs]
theorem shT_eq (t : List Int) : shT t = tupleText (t.map strI) := by
  unfold shT
  simp only [D.pd, pd_ints, PyData.shown, shown_ints]
theorem sum_le {l : List Nat} {B : Nat} (h : ∀ x ∈ l, x ≤ B) : l.sum ≤ l.length * B := by
  induction l with
  | nil => simp
  | cons a l ih =>
    have := ih fun x hx => h x (.tail _ hx)
    have := h a (.head _)
    rw [List.sum_cons, List.length_cons, Nat.add_mul]
    omega
theorem shT_len {t : List Int} (h : ∀ x ∈ t, x.natAbs < 10 ^ 30) : (shT t).length ≤ t.length * 33 + 3 := by
  rw [shT_eq]
  unfold tupleText
  have h1 := StrLaws.join_length_le ", " (t.map strI)
  have h2 : ((t.map strI).map (·.length)).sum ≤ ((t.map strI).map (·.length)).length * 31 := sum_le fun x hx => by
    obtain ⟨y, hy, rfl⟩ := List.mem_map.mp hx
    obtain ⟨z, hz, rfl⟩ := List.mem_map.mp hy
    exact strI_len (k := 30) (by decide) (h z hz)
  simp only [List.length_map] at h1 h2
  have q1 : (Str.ofString "(").length = 1 := rfl
  have q2 : (Str.ofString ", ").length = 2 := rfl
  have q3 : (Str.ofString (if (t.map strI).length == 1 then ",)" else ")" : String)).length ≤ 2 := by split <;> decide
  rw [q2] at h1
  rw [len_app, len_app]
  omega
theorem showable_ints {t : List Int} (h : ∀ x ∈ t, x.natAbs < 10 ^ 30) : PyData.showableAll (t.map .int) = true := by
  induction t with
  | nil => rfl
  | cons x t ih =>
    rw [List.map_cons, PyData.showableAll, ih fun y hy => h y (.tail _ hy)]
    simp [PyData.showable, log_small (h x (.head _))]
theorem hasDict_ints : ∀ t : List Int, PyData.hasDictAll (t.map .int) = false
  | [] => rfl
  | x :: t => by rw [List.map_cons, PyData.hasDictAll, hasDict_ints t]; rfl
theorem showOk_dT {t : List Int} (h : ∀ x ∈ t, x.natAbs < 10 ^ 30) (hl : t.length ≤ 1000) : showOk (dT t) = true := by
  have h1 := shT_len h
  have l0 : line = 16777216 := rfl
  have h2 : (PyData.shown (D.pd (dT t))).length ≤ line := by show (shT t).length ≤ line; omega
  unfold showOk
  rw [show D.pure flatN (dT t) = true from pure_dT 39 t]
  simp only [h2, decide_true, Bool.and_true, Bool.true_and]
  simp only [D.pd, pd_ints, PyData.showable, PyData.hasDict, showable_ints h, hasDict_ints]
  rfl
theorem strs_map : ∀ ys : List Str, strsD (ys.map .str) = some ys
  | [] => rfl
  | y :: ys => by simp [strsD, strs_map ys]
def textT (ls : List (List Int)) : Str := if ls = [] then "empty" else Str.join " " (ls.map shT)
theorem str_up (h : Ups G) {w : Int} {ls : List (List Int)} (hl : ls.length ≤ 1000) (hw : ∀ t ∈ ls, t.length ≤ 100) (hb : ∀ t ∈ ls, ∀ x ∈ t, x.natAbs < 10 ^ 30) : callN G (k + 1) 45 [upD w ls] M = .ok (.str (textT ls)) M := by
  rw [callN_fn h.f45 rfl]
  have l0 : line = 16777216 := rfl
  have hc : evE (FE G k) c_UpSet___str___c0 [some (upD w ls), none] M = .ok (.lst ((ls.map shT).map .str)) M := by
    have h := (comp_map (E := FE G k) (p := .v 1) (vars := [1]) (e := .bf .str false [.slot 1]) (L := [some (upD w ls), none]) (M := M) (it := .fld (.slot 0) "least")
      (fun x => .str (PyData.shown x.pd)) (by simp [fld_least h]; first | rfl | exact ⟨rfl, rfl⟩) rfl (by simp; omega) (fun x hx acc => by
      obtain ⟨p, hp, rfl⟩ := List.mem_map.mp hx
      have := showOk_dT (hb p hp) (by have := hw p hp; omega)
      simp [bfD, bfun, this]) (fun x hx => rfl)).1
    rw [h]
    simp [Function.comp_def, shT]
  have hs : (((ls.map shT)).map (·.length)).sum ≤ (((ls.map shT)).map (·.length)).length * 4000 := sum_le fun x hx => by
    obtain ⟨y, hy, rfl⟩ := List.mem_map.mp hx
    obtain ⟨z, hz, rfl⟩ := List.mem_map.mp hy
    have := shT_len (hb z hz)
    have := hw z hz
    omega
  have q1 : (Str.ofString " ").length = 1 := rfl
  have hs2 : ((ls.map shT).map (·.length)).sum + (ls.map shT).length * (Str.ofString " ").length ≤ line := by
    rw [q1]
    simp only [List.length_map] at hs ⊢
    omega
  rw [List.length_map] at hs2
  have hp : D.pure flatN (.lst (ls.map dT)) = true := flat_map (fun a => pure_dT 38 a) ls |> fun h => by
    show D.pureL 39 _ = true
    exact pureL_map (fun a => pure_dT 38 a) ls
  have hq : peq (.lst (ls.map dT)) (.lst []) = decide (ls = []) := by
    cases ls <;> simp
  by_cases he : ls = []
  · subst he
    simp [Fc_UpSet___str__, c_UpSet___str__, eb_cons, fld_least h, cmpE, cmpop, flatN, textT]
  · simp [Fc_UpSet___str__, c_UpSet___str__, eb_cons, fld_least h, cmpE, cmpop, hp, show D.pure flatN (.lst []) = true from rfl, hq, he, hc, bmK, bmeth, strs_map, -List.map_map, hs2, textT]
end
end Mi
end

section
set_option autoImplicit false
set_option linter.all false
set_option Elab.async false
set_option maxRecDepth 100000
/-! Msrc: what the laws draw from. -/
namespace Mi
open Lc PySem
/-- the source of draws: a great number, a seed, a counter -/
def Src (B : Nat) (o : AO) : Prop := ∃ g c t : Int, o = .lst [.int g, .int c, .int t] ∧ 0 ≤ g ∧ 0 ≤ c ∧ c < 2 ^ 100 ∧ 0 ≤ t ∧ t ≤ B
theorem Src.mono {B B' : Nat} {o : AO} (h : Src B o) (l : B ≤ B') : Src B' o := by
  obtain ⟨g, c, t, e, h1, h2, h3, h4, h5⟩ := h
  exact ⟨g, c, t, e, h1, h2, h3, h4, by omega⟩
theorem Src.under {B n : Nat} {o : AO} (h : Src B o) : o.under n = true := by
  obtain ⟨g, c, t, rfl, _⟩ := h
  rfl
theorem log_lt {i : Int} {n : Nat} (h0 : 0 ≤ i) (h : i < 2 ^ n) (hn : 0 < n) : i.natAbs.log2 < n := by
  by_cases hz : i.natAbs = 0
  · rw [hz]; simpa using hn
  · rw [Nat.log2_lt hz]
    have e : ((i.natAbs : Nat) : Int) = i := Int.natAbs_of_nonneg h0
    have : ((i.natAbs : Nat) : Int) < ((2 ^ n : Nat) : Int) := by rw [e]; simpa using h
    exact Int.ofNat_lt.mp this
def srcB (z : Int) : List CS :=
  [.asg (.pat (.v 2)) (.ite (.cmp .lt (.slot 1) (.bf .len false [.slot 0])) (.sub (.slot 0) (.slot 1)) (.lit (.int 0))),
    .asg (.pat (.v 3)) (.ite (.cmp .ge (.bf .abs false [.slot 2]) (.bin .pow false (.lit (.int 10)) (.lit (.int 18)))) (.bf .abs false [.slot 2]) (.lit (.int 0))),
    .ret (.lst true [.slot 3, .bin .add false (.bin .add false (.bin .add false (.bin .mod false (.bf .int false [.slot 2]) (.lit (.int 1000000000000000009))) (.bin .mul false (.bin .mul false (.lit (.int 821)) (.slot 1)) (.slot 1))) (.bin .mul false (.lit (.int 53)) (.slot 1))) (.lit (.int z)), .lit (.int 0)])]
theorem mulOk_of {i j : Int} {a b : Nat} (h0 : 0 ≤ i) (h1 : i < 2 ^ a) (h2 : 0 ≤ j) (h3 : j < 2 ^ b) (ha : 0 < a) (hb : 0 < b) (hab : a + b ≤ 1000000) : mulOk i j = true := by
  have := log_lt h0 h1 ha
  have := log_lt h2 h3 hb
  simp [mulOk]
  omega
theorem divOk_of {j : Int} {b : Nat} (h2 : 0 < j) (h3 : j < 2 ^ b) (hb : 0 < b) (hab : b ≤ 9000) : divOk j = true := by
  have := log_lt (by omega) h3 hb
  simp [divOk, h2]
  omega
theorem powOk_of {i j : Int} {a : Nat} (h0 : 0 ≤ i) (h1 : i < 2 ^ a) (ha : 0 < a) (haa : a ≤ 1000) (h2 : 0 ≤ j) (h3 : j ≤ 1000) : powOk i j = true := by
  have := log_lt h0 h1 ha
  simp [powOk, h2, h3]
  omega
theorem mul_lt {i j : Int} {a b : Nat} (h0 : 0 ≤ i) (h1 : i < 2 ^ a) (h2 : 0 ≤ j) (h3 : j < 2 ^ b) : 0 ≤ i * j ∧ i * j < 2 ^ (a + b) := by
  refine ⟨Int.mul_nonneg h0 h2, ?_⟩
  have p1 : (0 : Int) < 2 ^ a := by omega
  calc i * j ≤ 2 ^ a * j := Int.mul_le_mul_of_nonneg_right (by omega) h2
    _ < 2 ^ a * 2 ^ b := Int.mul_lt_mul_of_pos_left h3 p1
    _ = 2 ^ (a + b) := (Int.pow_add 2 a b).symm
theorem prime_at (t : Int) : ∃ P : Int, L2.atI [D.int 2147483647, .int 2147483629, .int 2147483587, .int 2147483563, .int 2147483549] (t % 5) = some (.int P) ∧ 0 < P ∧ P < 2 ^ 32 := by
  have h0 := Int.emod_nonneg t (show (5 : Int) ≠ 0 by decide)
  have h1 := Int.emod_lt_of_pos t (show (0 : Int) < 5 by decide)
  generalize t % 5 = r at h0 h1
  have : r = 0 ∨ r = 1 ∨ r = 2 ∨ r = 3 ∨ r = 4 := by omega
  rcases this with rfl | rfl | rfl | rfl | rfl <;> exact ⟨_, rfl, by decide, by decide⟩
section
variable {G : Prg} {k : Nat} {M : Store}
theorem draw (h : G.fn 1001 = some Fh_draw) {n B : Nat} {o : AO} {m : Int} (hM : M[n]? = some o) (ho : Src B o) (hB : B < 2 ^ 100) (hm : 0 < m) (hm2 : m < 2 ^ 200) :
    ∃ (d : Int) (o' : AO), callN G (k + 1) 1001 [.loc n, .int m] M = .ok (.int d) (M.set n o') ∧ Src (B + 1) o' ∧ 0 ≤ d ∧ d < m := by
  obtain ⟨g, c, t, rfl, h1, h2, h3, h4, h5⟩ := ho
  rw [callN_fn h rfl]
  have hv := view_at hM
  have hs : ∀ xs : List D, (M.set n (.lst xs))[n]? = some (.lst xs) := fun xs => get_set hM
  have hv2 : ∀ xs : List D, view (M.set n (.lst xs)) (.loc n) = .lst xs := fun xs => view_at (hs xs)
  have a0 : ∀ a b c : D, L2.atI [a, b, c] 0 = some a := fun _ _ _ => rfl
  have a1 : ∀ a b c : D, L2.atI [a, b, c] 1 = some b := fun _ _ _ => rfl
  have a2 : ∀ a b c : D, L2.atI [a, b, c] 2 = some c := fun _ _ _ => rfl
  have x0 : L2.ixN 3 0 = some 0 := rfl
  have x2 : L2.ixN 3 2 = some 2 := rfl
  have dm : divOk m = true := divOk_of hm hm2 (by decide) (by decide)
  have tr : ∀ (v : Int) (a b c : Int), trunc M (.int v) (M.set n (.lst [.int a, .int b, .int c])) = .ok (.int v) (M.set n (.lst [.int a, .int b, .int c])) := fun v a b c => by
    have := trunc_set (M0 := M) (v := .int v) (B := []) (i := n) (o := .lst [.int a, .int b, .int c]) rfl rfl
    simpa using this
  by_cases hg : 0 < g
  · refine ⟨g % m, .lst [.int (g / m), .int c, .int t], ?_, ⟨_, _, _, rfl, Int.ediv_nonneg h1 (by omega), h2, h3, h4, by omega⟩, Int.emod_nonneg _ (by omega), Int.emod_lt_of_pos _ hm⟩
    simp [Fh_draw, h_draw, eb_cons, subE, Lc.index, hv, cmpE, cmpop, hg, bfD, bfun, binE, binop, hm, dm, asgT, setIx, hM, a0, a1, a2, x0, x2, tr]
  · have e100 : (2 : Int) ^ 100 = 1267650600228229401496703205376 := by decide
    have tb : t + 1 < 2 ^ 101 := by
      have : ((B : Nat) : Int) < ((2 ^ 100 : Nat) : Int) := Int.ofNat_lt.mpr hB
      have e2 : ((2 ^ 100 : Nat) : Int) = 1267650600228229401496703205376 := by decide
      have e3 : (2 : Int) ^ 101 = 2535301200456458802993406410752 := by decide
      omega
    obtain ⟨P, hP, p0, p1⟩ := prime_at (t + 1)
    have e103 : (2 : Int) ^ 101 * 4 = 2 ^ 103 := by decide
    have f1 : 0 ≤ 4 * (t + 1) + 3 ∧ 4 * (t + 1) + 3 < 2 ^ 104 := by
      have e : (2 : Int) ^ 104 = 2 ^ 101 * 8 := by decide
      omega
    have m1 : mulOk 4 (t + 1) = true := mulOk_of (a := 3) (b := 101) (by decide) (by decide) (by omega) tb (by decide) (by decide) (by decide)
    have m2 : mulOk c (4 * (t + 1) + 3) = true := mulOk_of (a := 100) (b := 104) h2 h3 f1.1 f1.2 (by decide) (by decide) (by decide)
    have m3 : mulOk 9001 (t + 1) = true := mulOk_of (a := 14) (b := 101) (by decide) (by decide) (by omega) tb (by decide) (by decide) (by decide)
    have g3 := mul_lt (i := 9001) (j := t + 1) (a := 14) (b := 101) (by decide) (by decide) (by omega) tb
    have m4 : mulOk (9001 * (t + 1)) (t + 1) = true := mulOk_of (a := 115) (b := 101) g3.1 g3.2 (by omega) tb (by decide) (by decide) (by decide)
    have g2 := mul_lt (i := c) (j := 4 * (t + 1) + 3) (a := 100) (b := 104) h2 h3 f1.1 f1.2
    have g4 := mul_lt (i := 9001 * (t + 1)) (j := t + 1) (a := 115) (b := 101) g3.1 g3.2 (by omega) tb
    have e300 : (2 : Int) ^ (100 + 104) + 2 ^ (115 + 101) + 101 < 2 ^ 300 := by decide
    have pw : powOk (c * (4 * (t + 1) + 3) + 9001 * (t + 1) * (t + 1) + 101) 3 = true := powOk_of (a := 300) (by omega) (by omega) (by decide) (by decide) (by decide) (by decide)
    generalize hb : c * (4 * (t + 1) + 3) + 9001 * (t + 1) * (t + 1) + 101 = b at pw
    have q0 : 0 ≤ b ^ 3 % P := Int.emod_nonneg _ (by omega)
    have q1 : b ^ 3 % P < 2 ^ 32 := Int.lt_trans (Int.emod_lt_of_pos _ p0) p1
    have d1 : divOk 4093 = true := by decide
    have d2 : divOk 32 = true := by decide
    have m5 : mulOk 3 (t + 1) = true := mulOk_of (a := 2) (b := 101) (by decide) (by decide) (by omega) tb (by decide) (by decide) (by decide)
    generalize hq : b ^ 3 % P = q at q0 q1
    have r0 : 0 ≤ q / 4093 := Int.ediv_nonneg q0 (by decide)
    have r1 : q / 4093 ≤ q := Int.ediv_le_self _ q0
    have m6 : mulOk q (q / 4093 + 3 * (t + 1)) = true := mulOk_of (a := 32) (b := 104) q0 q1 (by omega) (by
      have e : (2 : Int) ^ 104 = 2 ^ 101 * 8 := by decide
      have e5 : (2 : Int) ^ 32 < 2 ^ 101 := by decide
      omega) (by decide) (by decide) (by decide)
    refine ⟨q * (q / 4093 + 3 * (t + 1)) % 2147483579 / 32 % m, .lst [.int g, .int c, .int (t + 1)], ?_, ⟨_, _, _, rfl, h1, h2, h3, by omega, by omega⟩, Int.emod_nonneg _ (by omega), Int.emod_lt_of_pos _ hm⟩
    have hpw : b ^ Int.toNat 3 = b ^ 3 := rfl
    simp [Fh_draw, h_draw, eb_cons, subE, Lc.index, hv, hv2, cmpE, cmpop, hg, bfD, bfun, binE, binop, hm, dm, asgT, setIx, hM, hs, a0, a1, a2, x0, x2, tr, m1, m2, m3, m4, hb, pw, hP, p0, hq, d1, d2, m5, m6]
theorem source {f : Nat} {z : Int} (h : G.fn f = some ⟨2, 4, srcB z⟩) (hz : 0 ≤ z) (hz2 : z < 2 ^ 60) {ns : List Int} {i : Nat} (hi : i ≤ 63) (hl : ns.length ≤ 63) :
    ∃ o, callN G (k + 1) f [.lst (ns.map .int), .int i] M = .ok (.loc M.length) (M ++ [o]) ∧ Src 0 o := by
  rw [callN_fn h rfl]
  have ex : ∃ c : Int, evE (FE G k) (.ite (.cmp .lt (.slot 1) (.bf .len false [.slot 0])) (.sub (.slot 0) (.slot 1)) (.lit (.int 0))) [some (.lst (ns.map .int)), some (.int i), none, none] M = .ok (.int c) M := by
    by_cases hc : (i : Int) < ns.length
    · have hn : i < ns.length := by omega
      have e : L2.atI (ns.map D.int) (i : Int) = some (.int ns[i]) := L2.atI_nat (by rw [List.getElem?_map, List.getElem?_eq_getElem hn]; rfl)
      exact ⟨ns[i], by simp [cmpE, cmpop, bfD, bfun, hn, subE, Lc.index, e]⟩
    · have hn : ¬ i < ns.length := by omega
      exact ⟨0, by simp [cmpE, cmpop, bfD, bfun, hn]⟩
  obtain ⟨c, hc⟩ := ex
  have ex2 : ∃ g : Int, 0 ≤ g ∧ evE (FE G k) (.ite (.cmp .ge (.bf .abs false [.slot 2]) (.bin .pow false (.lit (.int 10)) (.lit (.int 18)))) (.bf .abs false [.slot 2]) (.lit (.int 0))) [some (.lst (ns.map .int)), some (.int i), some (.int c), none] M = .ok (.int g) M := by
    have pw : powOk 10 18 = true := by decide
    have ab : ∀ c : Int, (0 : Int) ≤ if c < 0 then -c else c := fun c => by split <;> omega
    by_cases hb : (10 : Int) ^ Int.toNat 18 ≤ if c < 0 then -c else c
    · exact ⟨if c < 0 then -c else c, ab c, by simp only [ev_ite, ev_cmp, ev_bf, ev_bin, evEs_slot, evEs_none, ev_slot0, ev_slotS, ev_lit, Res.bind_ok, bfD, bfun, binE, binop, view_i, pw, if_true, cmpE, cmpop, hb, decide_true, truth_b]⟩
    · exact ⟨0, Int.le_refl _, by simp only [ev_ite, ev_cmp, ev_bf, ev_bin, evEs_slot, evEs_none, ev_slot0, ev_slotS, ev_lit, Res.bind_ok, bfD, bfun, binE, binop, view_i, pw, if_true, cmpE, cmpop, hb, decide_false, truth_b]⟩
  obtain ⟨g, hg, hg2⟩ := ex2
  have i0 : (0 : Int) ≤ i := by omega
  have i1 : (i : Int) < 2 ^ 6 := by
    have : (2 : Int) ^ 6 = 64 := by decide
    omega
  have m1 : mulOk 821 i = true := mulOk_of (a := 10) (b := 6) (by decide) (by decide) i0 i1 (by decide) (by decide) (by decide)
  have g1 := mul_lt (i := 821) (j := i) (a := 10) (b := 6) (by decide) (by decide) i0 i1
  have m2 : mulOk (821 * i) i = true := mulOk_of (a := 16) (b := 6) g1.1 g1.2 i0 i1 (by decide) (by decide) (by decide)
  have g2 := mul_lt (i := 821 * (i : Int)) (j := i) (a := 16) (b := 6) g1.1 g1.2 i0 i1
  have m3 : mulOk 53 i = true := mulOk_of (a := 6) (b := 6) (by decide) (by decide) i0 i1 (by decide) (by decide) (by decide)
  have r0 := Int.emod_nonneg c (show (1000000000000000009 : Int) ≠ 0 by decide)
  have r1 := Int.emod_lt_of_pos c (show (0 : Int) < 1000000000000000009 by decide)
  refine ⟨.lst [.int g, .int (c % 1000000000000000009 + 821 * i * i + 53 * i + z), .int 0], ?_, ⟨_, _, _, rfl, hg, ?_, ?_, Int.le_refl _, by omega⟩⟩
  · simp [srcB, eb_cons, -ev_ite, hc, hg2, binE, binop, bfD, bfun, m1, m2, m3]
    simp [trunc, D.under]
  · omega
  · have e : (2 : Int) ^ 100 = 1267650600228229401496703205376 := by decide
    have e2 : (2 : Int) ^ 60 = 1152921504606846976 := by decide
    have e3 : (2 : Int) ^ (16 + 6) = 4194304 := by decide
    omega
end
end Mi
end

section
set_option autoImplicit false
set_option linter.all false
set_option Elab.async false
set_option maxRecDepth 100000
/-! Mdr: comprehensions that draw. -/
namespace Mi
open Lc PySem
theorem rangeD_eq : ∀ (n : Nat) (lo : Int), rangeD lo n = (List.range n).map fun i => .int (lo + (i : Nat))
  | 0, _ => rfl
  | n + 1, lo => by
    rw [rangeD, rangeD_eq n (lo + 1), List.range_succ_eq_map, List.map_cons, List.map_map]
    simp only [Function.comp_def]
    congr 1
    · simp
    · refine List.map_congr_left fun i _ => ?_
      congr 1
      simp only [Nat.succ_eq_add_one]
      omega
@[simp] theorem rangeD_len (n : Nat) (lo : Int) : (rangeD lo n).length = n := by rw [rangeD_eq]; simp
theorem rng1 {E : Fe} {L : Lc.Loc} {M M1 : Store} {e : CE} {n : Int} (h : evEs E [e] L M = .ok [.int n] M1) (h0 : -1000000000000 ≤ n) (h1 : n ≤ 1000000000000) : evE E (.rng [e]) L M = .ok (.lst (rangeD 0 n.toNat)) M1 := by
  have c : n < 2 ^ 62 ∧ -(2 ^ 62) ≤ n := by
    have : (2 : Int) ^ 62 = 4611686018427387904 := by decide
    omega
  rw [ev_rng, h, Res.bind_ok]
  simp only
  rw [if_pos c]
theorem rng2 {E : Fe} {L : Lc.Loc} {M M1 : Store} {e f : CE} {a b : Int} (h : evEs E [e, f] L M = .ok [.int a, .int b] M1) (h0 : -1000000000000 ≤ a) (h1 : a ≤ 1000000000000) (h2 : -1000000000000 ≤ b) (h3 : b ≤ 1000000000000) : evE E (.rng [e, f]) L M = .ok (.lst (rangeD a (b - a).toNat)) M1 := by
  have c : a < 2 ^ 62 ∧ -(2 ^ 62) ≤ a ∧ b < 2 ^ 62 ∧ -(2 ^ 62) ≤ b := by
    have : (2 : Int) ^ 62 = 4611686018427387904 := by decide
    omega
  rw [ev_rng, h, Res.bind_ok]
  simp only
  rw [if_pos c]
theorem as_map {α : Type} {f : α → D} {Q : α → Prop} : ∀ {ys : List D}, (∀ y ∈ ys, ∃ a, y = f a ∧ Q a) → ∃ as : List α, ys = as.map f ∧ ∀ a ∈ as, Q a
  | [], _ => ⟨[], rfl, nofun⟩
  | y :: ys, h => by
    obtain ⟨a, e, q⟩ := h y (.head _)
    obtain ⟨as, e2, q2⟩ := as_map fun z hz => h z (.tail _ hz)
    refine ⟨a :: as, by rw [e, e2]; rfl, fun b hb => ?_⟩
    rcases List.mem_cons.mp hb with rfl | hb
    · exact q
    · exact q2 b hb
theorem comp_draws {E : Fe} {p : Pat} {it : CE} {vars : List Nat} {e : CE} {L : Lc.Loc} {M M1 : Store} {d : D} {xs : List D} {n B c : Nat} {o : AO} (P : D → Prop) (hit : evE E it L M = .ok d M1) (hx : Lc.items M1 d = some xs) (hd : ∀ M2, still M1 d M2 = true) (hl : xs.length ≤ line) (hM : M1[n]? = some o) (ho : Src B o)
    (step : ∀ (i : Nat) (x : D) (acc : List D) (o1 : AO), xs[i]? = some x → Src (B + i * c) o1 → ∃ L1, Pat.set p x (M1.set n o1 ++ [.lst acc]) (wipeL L vars) = some L1 ∧ ∃ v o2, evE E e L1 (M1.set n o1 ++ [.lst acc]) = .ok v (M1.set n o2 ++ [.lst acc]) ∧ Src (B + (i + 1) * c) o2 ∧ P v ∧ v.under M1.length = true) :
    ∃ ys o', evE E (.comp false [.mk p it []] vars e) L M = .ok (.lst ys) (M1.set n o') ∧ Src (B + xs.length * c) o' ∧ ys.length = xs.length ∧ ∀ y ∈ ys, P y := by
  have hn := (List.getElem?_eq_some_iff.mp hM).1
  have hset : M1.set n o = M1 := by
    obtain ⟨h1, h2⟩ := List.getElem?_eq_some_iff.mp hM
    rw [← h2]
    exact List.set_getElem_self h1
  obtain ⟨ys, M4, ⟨o1, rfl, h1, h2, h3⟩, e1⟩ := comp_run (own := false) (ifs := []) hit hx (fun i acc M' => ∃ o1, M' = M1.set n o1 ++ [.lst acc] ∧ Src (B + i * c) o1 ∧ acc.length = i ∧ ∀ y ∈ acc, P y ∧ y.under M1.length = true)
    ⟨o, by rw [hset], by simpa using ho, rfl, nofun⟩ (fun i acc M' h => by
      obtain ⟨o1, rfl, _⟩ := h
      refine ⟨hd _, ?_⟩
      have : M1.length = (M1.set n o1).length := by simp
      rw [this]
      exact get_end ..) (fun i x acc M' hi h => by
      obtain ⟨o1, rfl, h1, h2, h3⟩ := h
      obtain ⟨L1, e1, v, o2, e2, s2, pv, uv⟩ := step i x acc o1 hi h1
      have hlen : M1.length = (M1.set n o2).length := by simp
      refine ⟨L1, e1, true, _, by simp, v, _, e2, ?_, ?_, o2, ?_, s2, by simp [h2], ?_⟩
      · rw [hlen]; exact get_end ..
      · have := (List.getElem?_eq_some_iff.mp hi).1
        omega
      · rw [hlen]; exact set_end ..
      · intro y hy
        rcases List.mem_append.mp hy with hy | hy
        · exact h3 y hy
        · rw [List.mem_singleton.mp hy]
          exact ⟨pv, uv⟩)
  refine ⟨ys, o1, ?_, h1, h2, fun y hy => (h3 y hy).1⟩
  rw [e1]
  have hlen : M1.length = (M1.set n o1).length := by simp
  have g1 : (M1.set n o1 ++ [AO.lst ys])[M1.length]? = some (.lst ys) := by rw [hlen]; exact get_end ..
  have g2 : (M1.set n o1 ++ [AO.lst ys]).set M1.length .dead = M1.set n o1 ++ [.dead] := by rw [hlen]; exact set_end ..
  simp only [doneL, g1, Bool.false_eq_true, if_false, g2]
  rw [trunc_set (by rw [under_lst]; exact D.underL_all.mpr fun y hy => (h3 y hy).2) h1.under]
  rfl
/-- a draw within an expression -/
theorem ev_draw {G : Prg} {k i n B : Nat} {L : Lc.Loc} {M : Store} {o : AO} {m : Int} {em : CE} (h : G.fn 1001 = some Fh_draw) (hi : L[i]? = some (some (.loc n))) (hs : starC em = false) (hm : evE (FE G (k + 1)) em L M = .ok (.int m) M) (hM : M[n]? = some o) (ho : Src B o) (hB : B < 2 ^ 100) (h0 : 0 < m) (h1 : m < 2 ^ 200) :
    ∃ (d : Int) (o' : AO), evE (FE G (k + 1)) (.call 1001 [.slot i, em] [] [.inl 0, .inl 1]) L M = .ok (.int d) (M.set n o') ∧ Src (B + 1) o' ∧ 0 ≤ d ∧ d < m := by
  obtain ⟨d, o', e, h2⟩ := draw (k := k) h hM ho hB h0 h1
  refine ⟨d, o', ?_, h2⟩
  rw [ev_call, evEs_slot, ev_slot hi, Res.bind_ok, evEs_one hs, hm]
  simp [e]
end Mi
end

section
set_option autoImplicit false
set_option linter.all false
set_option Elab.async false
set_option maxRecDepth 100000
set_option maxHeartbeats 4000000
/-! K26: the law's text. Printed by gen2.py. -/
namespace K26
open PySem L2 PySem.Spec PyProof.Rows Lc
-- 1139
def Nh_source : List Str := ["_law_script", "_law_at", "_law_cell", "_law_great"]
def h_source : List CS :=
  [.asg (.pat (.v 2)) (.ite (.cmp .lt (.slot 1) (.bf .len false [.slot 0])) (.sub (.slot 0) (.slot 1)) (.lit (.int 0))),
    .asg (.pat (.v 3)) (.ite (.cmp .ge (.bf .abs false [.slot 2]) (.bin .pow false (.lit (.int 10)) (.lit (.int 18)))) (.bf .abs false [.slot 2]) (.lit (.int 0))),
    .ret (.lst true [.slot 3, .bin .add false (.bin .add false (.bin .add false (.bin .mod false (.bf .int false [.slot 2]) (.lit (.int 1000000000000000009))) (.bin .mul false (.bin .mul false (.lit (.int 821)) (.slot 1)) (.slot 1))) (.bin .mul false (.lit (.int 53)) (.slot 1))) (.lit (.int 2533)), .lit (.int 0)])]
def Fh_source : Fn := ⟨2, 4, h_source⟩
-- 1143
abbrev h_is_in_c0 : CE := .comp false [.mk (.v 2) (.slot 1) []] [2] (.call 1142 [.slot 0, .slot 2] [] [.inl 0, .inl 1])
def Nh_is_in : List Str := ["_law_one", "_law_tuples_here", "_law_other"]
def h_is_in : List CS :=
  [.ret (.bf .any false [h_is_in_c0])]
def Fh_is_in : Fn := ⟨2, 3, h_is_in⟩
-- 1145
abbrev h_smallest_l0 : CS := .loop (.v 2) (.slot 0) [.ite (.disj [.cmp .is (.slot 1) (.lit .non), .cmp .lt (.bf .sum false [.bf .list false [.slot 2]]) (.bf .sum false [.bf .list false [.slot 1]])]) [.asg (.pat (.v 1)) (.slot 2)] []]
def Nh_smallest : List Str := ["_law_corners", "_law_found", "_law_one"]
def h_smallest : List CS :=
  [.asg (.pat (.v 1)) (.lit .non),
    h_smallest_l0,
    .ret (.slot 1)]
def Fh_smallest : Fn := ⟨1, 3, h_smallest⟩
-- 1146
abbrev h_is_shown_c0 : CE := .comp false [.mk (.v 3) (.slot 1) []] [3] (.bf .str false [.slot 3])
def Nh_is_shown : List Str := ["_law_upset", "_law_corners", "_law_ending", "_law_corner"]
def h_is_shown : List CS :=
  [.asg (.pat (.v 2)) (.ite (.cmp .eq (.bf .len false [.slot 1]) (.lit (.int 1))) (.lit (.str " corner)")) (.lit (.str " corners)"))),
    .ite (.disj [.cmp .ne (.frz (.meth "corners" (.slot 0) [] [] [.inl 0])) (.slot 1), .cmp .ne (.bf .len false [.slot 0]) (.bf .len false [.slot 1]), .cmp .ne (.bf .bool false [.slot 0]) (.cmp .ne (.slot 1) (.lst false []))]) [.ret (.lit (.bl false))] [],
    .ite (.disj [.cmp .ne (.bf .repr false [.slot 0]) (.bin .add false (.bin .add false (.lit (.str "UpSet(")) (.bf .str false [.bf .len false [.slot 1]])) (.slot 2)), .cmp .ne (.meth "smallest" (.slot 0) [] [] [.inl 0]) (.call 1145 [.slot 1] [] [.inl 0])]) [.ret (.lit (.bl false))] [],
    .ret (.cmp .eq (.bf .str false [.slot 0]) (.ite (.cmp .eq (.slot 1) (.lst false [])) (.lit (.str "empty")) (.bm .join false (.lit (.str " ")) [h_is_shown_c0])))]
def Fh_is_shown : Fn := ⟨2, 4, h_is_shown⟩
-- 1147
abbrev h_law_c0 : CE := .comp false [.mk (.v 10) (.slot 11) []] [10] (.bf .max2 false [.lit (.int 0), .bin .sub false (.slot 10) (.lit (.int 1))])
abbrev h_law_c1 : CE := .comp false [.mk (.v 11) (.slot 5) []] [11] (.bf .tuple false [h_law_c0])
abbrev h_law_l2 : CS := .loop (.v 11) (.bin .add false (.bin .add false (.slot 9) (.slot 5)) (.call 1140 [.slot 2, .slot 3, .lit (.int 7), .slot 4] [] [.inl 0, .inl 1, .inl 2, .inl 3])) [.ite (.cmp .ne (.cmp .inn (.slot 11) (.slot 7)) (.call 1143 [.slot 11, .slot 5] [] [.inl 0, .inl 1])) [.ret (.lit (.bl false))] []]
abbrev h_law_l3 : CS := .loop (.v 1) (.rng [.bf .max2 false [.lit (.int 1), .bf .min2 false [.lit (.int 6), .bf .len false [.slot 0]]]]) [.asg (.pat (.v 2)) (.call 1139 [.slot 0, .slot 1] [] [.inl 0, .inl 1]),
    .asg (.pat (.t [.v 3, .v 4])) (.tup [.bin .add false (.lit (.int 1)) (.call 1001 [.slot 2, .lit (.int 3)] [] [.inl 0, .inl 1]), .sub (.lst false [.lit (.int 3), .lit (.int 5), .bin .pow false (.lit (.int 10)) (.lit (.int 12))]) (.call 1001 [.slot 2, .lit (.int 3)] [] [.inl 0, .inl 1])]),
    .asg (.pat (.v 5)) (.call 1140 [.slot 2, .slot 3, .lit (.int 7), .slot 4] [] [.inl 0, .inl 1, .inl 2, .inl 3]),
    .asg (.pat (.v 6)) (.bf .list true [.slot 5]),
    .asg (.pat (.v 7)) (.mk false 10 [.slot 3, .ite (.cmp .eq (.call 1001 [.slot 2, .lit (.int 2)] [] [.inl 0, .inl 1]) (.lit (.int 0))) (.slot 6) (.bf .tuple false [.slot 6])] [] [.inl 0, .inl 1, .inl 2]),
    .exp (.bm .clear true (.slot 6) []),
    .asg (.pat (.v 8)) (.call 1144 [.slot 5] [] [.inl 0]),
    .ite (.disj [.cmp .ne (.prop (.slot 7) "width") (.slot 3), .not (.call 1146 [.slot 7, .slot 8] [] [.inl 0, .inl 1])]) [.ret (.lit (.bl false))] [],
    .exp (.bm .append true (.meth "corners" (.slot 7) [] [] [.inl 0]) [.bin .mul false (.tup [.lit (.int 0)]) (.slot 3)]),
    .ite (.not (.call 1146 [.slot 7, .slot 8] [] [.inl 0, .inl 1])) [.ret (.lit (.bl false))] [],
    .asg (.pat (.v 9)) (.bin .add false (h_law_c1) (.call 1141 [.slot 3, .lit (.int 4)] [] [.inl 0, .inl 1])),
    h_law_l2,
    .asg (.pat (.v 12)) (.cmet 10 "full" [.slot 3] [.inl 0, .inl 1]),
    .ite (.disj [.cmp .ne (.frz (.meth "corners" (.slot 12) [] [] [.inl 0])) (.lst false [.bin .mul false (.tup [.lit (.int 0)]) (.slot 3)]), .cmp .notIn (.bin .mul false (.tup [.lit (.int 0)]) (.slot 3)) (.slot 12), .cmp .ne (.prop (.slot 12) "width") (.slot 3)]) [.ret (.lit (.bl false))] []]
def Nh_law : List Str := ["_law_script", "_law_k", "_law_source_here", "_law_width", "_law_most", "_law_tuples_here", "_law_handed", "_law_upset", "_law_corners", "_law_near", "_law_value", "_law_one", "_law_whole"]
def h_law : List CS :=
  [h_law_l3,
    .ret (.conj [.cmp .eq (.frz (.meth "corners" (.mk false 10 [.lit (.int 2)] [] [.inl 0, .inl 1, .inr (.tup [])]) [] [] [.inl 0])) (.lst false []), .cmp .eq (.bf .str false [.mk false 10 [.lit (.int 1), .lst false [.tup [.lit (.int 3)]]] [] [.inl 0, .inl 1, .inl 2]]) (.lit (.str "(3,)")), .cmp .notIn (.tup [.lit (.int 9), .lit (.int 9)]) (.mk false 10 [.lit (.int 2)] [] [.inl 0, .inl 1, .inr (.tup [])])])]
def Fh_law : Fn := ⟨1, 13, h_law⟩
abbrev PW : Program := PySem.Challenge.pw_lonechild_k26_up_sets
def st (i : Nat) : Stmt := PW.main.body.getD i (.Pass ⟨0, 0, 0, 0⟩)
def sm (i j : Nat) : Stmt := stmIn (st i) j
def e9 : DE := ⟨9, ⟨.glo "counted", "counted", "counted", defArgs (st 2), defBody (st 2), defScope (st 2), [], []⟩, Nc_counted, ["many", "word"], Fc_counted⟩
def e31 : DE := ⟨31, ⟨.glo "is_at_least", "is_at_least", "is_at_least", defArgs (st 4), defBody (st 4), defScope (st 4), [], []⟩, Nc_is_at_least, ["one", "other"], Fc_is_at_least⟩
def e32 : DE := ⟨32, ⟨.glo "least_of", "least_of", "least_of", defArgs (st 5), defBody (st 5), defScope (st 5), [], []⟩, Nc_least_of, ["tuples"], Fc_least_of⟩
def e33 : DE := ⟨33, ⟨.meth "UpSet" "__init__", "__init__", "UpSet.__init__", defArgs (sm 6 0), defBody (sm 6 0), defScope (sm 6 0), [.adr (dflA (.meth "UpSet" "__init__") 0)], []⟩, Nc_UpSet___init__, ["self", "width", "corners"], Fc_UpSet___init__⟩
def e34 : DE := ⟨34, ⟨.cmet "UpSet" "full", "full", "UpSet.full", defArgs (sm 6 1), defBody (sm 6 1), defScope (sm 6 1), [], []⟩, Nc_UpSet_full, ["cls", "width"], Fc_UpSet_full⟩
def e35 : DE := ⟨35, ⟨.prop "UpSet" "width", "width", "UpSet.width", defArgs (sm 6 2), defBody (sm 6 2), defScope (sm 6 2), [], []⟩, Nc_UpSet_width, ["self"], Fc_UpSet_width⟩
def e36 : DE := ⟨36, ⟨.meth "UpSet" "corners", "corners", "UpSet.corners", defArgs (sm 6 3), defBody (sm 6 3), defScope (sm 6 3), [], []⟩, Nc_UpSet_corners, ["self"], Fc_UpSet_corners⟩
def e37 : DE := ⟨37, ⟨.meth "UpSet" "smallest", "smallest", "UpSet.smallest", defArgs (sm 6 4), defBody (sm 6 4), defScope (sm 6 4), [], []⟩, Nc_UpSet_smallest, ["self"], Fc_UpSet_smallest⟩
def e39 : DE := ⟨39, ⟨.meth "UpSet" "__contains__", "__contains__", "UpSet.__contains__", defArgs (sm 6 6), defBody (sm 6 6), defScope (sm 6 6), [], []⟩, Nc_UpSet___contains__, ["self", "counts"], Fc_UpSet___contains__⟩
def e40 : DE := ⟨40, ⟨.meth "UpSet" "__or__", "__or__", "UpSet.__or__", defArgs (sm 6 7), defBody (sm 6 7), defScope (sm 6 7), [], []⟩, Nc_UpSet___or__, ["self", "other"], Fc_UpSet___or__⟩
def e43 : DE := ⟨43, ⟨.meth "UpSet" "__len__", "__len__", "UpSet.__len__", defArgs (sm 6 10), defBody (sm 6 10), defScope (sm 6 10), [], []⟩, Nc_UpSet___len__, ["self"], Fc_UpSet___len__⟩
def e45 : DE := ⟨45, ⟨.meth "UpSet" "__str__", "__str__", "UpSet.__str__", defArgs (sm 6 12), defBody (sm 6 12), defScope (sm 6 12), [], []⟩, Nc_UpSet___str__, ["self"], Fc_UpSet___str__⟩
def e46 : DE := ⟨46, ⟨.meth "UpSet" "__repr__", "__repr__", "UpSet.__repr__", defArgs (sm 6 13), defBody (sm 6 13), defScope (sm 6 13), [], []⟩, Nc_UpSet___repr__, ["self"], Fc_UpSet___repr__⟩
def e1139 : DE := ⟨1139, ⟨.glo "_law_source", "_law_source", "_law_source", defArgs (st 8), defBody (st 8), defScope (st 8), [], []⟩, Nh_source, ["_law_script", "_law_at"], Fh_source⟩
def e1001 : DE := ⟨1001, ⟨.glo "_law_draw", "_law_draw", "_law_draw", defArgs (st 9), defBody (st 9), defScope (st 9), [], []⟩, Nh_draw, ["_law_source_here", "_law_many"], Fh_draw⟩
def e1140 : DE := ⟨1140, ⟨.glo "_law_tuples", "_law_tuples", "_law_tuples", defArgs (st 10), defBody (st 10), defScope (st 10), [], []⟩, Nh_tuples, ["_law_source_here", "_law_width", "_law_many", "_law_most"], Fh_tuples⟩
def e1141 : DE := ⟨1141, ⟨.glo "_law_grid", "_law_grid", "_law_grid", defArgs (st 11), defBody (st 11), defScope (st 11), [], []⟩, Nh_grid, ["_law_width", "_law_most"], Fh_grid⟩
def e1142 : DE := ⟨1142, ⟨.glo "_law_is_over", "_law_is_over", "_law_is_over", defArgs (st 12), defBody (st 12), defScope (st 12), [], []⟩, Nh_is_over, ["_law_one", "_law_other"], Fh_is_over⟩
def e1143 : DE := ⟨1143, ⟨.glo "_law_is_in", "_law_is_in", "_law_is_in", defArgs (st 13), defBody (st 13), defScope (st 13), [], []⟩, Nh_is_in, ["_law_one", "_law_tuples_here"], Fh_is_in⟩
def e1144 : DE := ⟨1144, ⟨.glo "_law_least", "_law_least", "_law_least", defArgs (st 14), defBody (st 14), defScope (st 14), [], []⟩, Nh_least, ["_law_tuples_here"], Fh_least⟩
def e1145 : DE := ⟨1145, ⟨.glo "_law_smallest", "_law_smallest", "_law_smallest", defArgs (st 15), defBody (st 15), defScope (st 15), [], []⟩, Nh_smallest, ["_law_corners"], Fh_smallest⟩
def e1146 : DE := ⟨1146, ⟨.glo "_law_is_shown", "_law_is_shown", "_law_is_shown", defArgs (st 16), defBody (st 16), defScope (st 16), [], []⟩, Nh_is_shown, ["_law_upset", "_law_corners"], Fh_is_shown⟩
def e1147 : DE := ⟨1147, ⟨.glo "law", "law", "law", defArgs (st 17), defBody (st 17), defScope (st 17), [], []⟩, Nh_law, ["_law_script"], Fh_law⟩
def U : Uv := ⟨[("counted", .fn 9), ("is_at_least", .fn 31), ("least_of", .fn 32), ("_law_source", .fn 1139), ("_law_draw", .fn 1001), ("_law_tuples", .fn 1140), ("_law_grid", .fn 1141), ("_law_is_over", .fn 1142), ("_law_is_in", .fn 1143), ("_law_least", .fn 1144), ("_law_smallest", .fn 1145), ("_law_is_shown", .fn 1146), ("law", .fn 1147), ("UpSet", .cls 10), ("abs", .blt), ("all", .blt), ("any", .blt), ("bool", .blt), ("int", .blt), ("isinstance", .blt), ("len", .blt), ("list", .blt), ("max", .blt), ("min", .blt), ("range", .blt), ("repr", .blt), ("sorted", .blt), ("str", .blt), ("sum", .blt), ("tuple", .blt), ("zip", .blt)],
  [(9, 2, [], [.inl 0, .inl 1]),
  (31, 2, [], [.inl 0, .inl 1]),
  (32, 1, [], [.inl 0]),
  (33, 2, [], [.inl 0, .inl 1, .inr (.tup [])]),
  (33, 3, [], [.inl 0, .inl 1, .inl 2]),
  (34, 2, [], [.inl 0, .inl 1]),
  (35, 1, [], [.inl 0]),
  (36, 1, [], [.inl 0]),
  (37, 1, [], [.inl 0]),
  (39, 2, [], [.inl 0, .inl 1]),
  (40, 2, [], [.inl 0, .inl 1]),
  (43, 1, [], [.inl 0]),
  (45, 1, [], [.inl 0]),
  (46, 1, [], [.inl 0]),
  (1001, 2, [], [.inl 0, .inl 1]),
  (1139, 2, [], [.inl 0, .inl 1]),
  (1140, 4, [], [.inl 0, .inl 1, .inl 2, .inl 3]),
  (1141, 2, [], [.inl 0, .inl 1]),
  (1142, 2, [], [.inl 0, .inl 1]),
  (1143, 2, [], [.inl 0, .inl 1]),
  (1144, 1, [], [.inl 0]),
  (1145, 1, [], [.inl 0]),
  (1146, 2, [], [.inl 0, .inl 1])],
  [(10, "__init__", 33), (10, "corners", 36), (10, "smallest", 37), (10, "__contains__", 39), (10, "__or__", 40), (10, "__len__", 43), (10, "__str__", 45), (10, "__repr__", 46)], [(10, "width", 35)], [(10, "full", 34)]⟩
def pd : Pd := ⟨U, [e9, e31, e32, e33, e34, e35, e36, e37, e39, e40, e43, e45, e46, e1139, e1001, e1140, e1141, e1142, e1143, e1144, e1145, e1146, e1147], [(10, "UpSet")], [(10, "least"), (10, "places")], [dflA (.meth "UpSet" "__init__") 0]⟩
theorem pd_ok : pd.ok = true := by decide +kernel
section
variable {K : PySem.W.Frag} {w : World} {fd : FuncData}
theorem b0 (hE : pd.ex K = true) (F : e9.d.Is K fd) : BindP (pd.tx K w) fd e9.ps 2 [] [.inl 0, .inl 1] := bind_plain F rfl fun _ _ _ _ _ _ us ws us' h1 h2 h3 => match us, ws, h1, h2, h3 with | [a0, a1], [], _, _, h3 => by cases h3; rfl
theorem b1 (hE : pd.ex K = true) (F : e31.d.Is K fd) : BindP (pd.tx K w) fd e31.ps 2 [] [.inl 0, .inl 1] := bind_plain F rfl fun _ _ _ _ _ _ us ws us' h1 h2 h3 => match us, ws, h1, h2, h3 with | [a0, a1], [], _, _, h3 => by cases h3; rfl
theorem b2 (hE : pd.ex K = true) (F : e32.d.Is K fd) : BindP (pd.tx K w) fd e32.ps 1 [] [.inl 0] := bind_plain F rfl fun _ _ _ _ _ _ us ws us' h1 h2 h3 => match us, ws, h1, h2, h3 with | [a0], [], _, _, h3 => by cases h3; rfl
theorem b3 (hE : pd.ex K = true) (F : e33.d.Is K fd) : BindP (pd.tx K w) fd e33.ps 2 [] [.inl 0, .inl 1, .inr (.tup [])] := bind_dfl F (js := [0]) (by nofun) (by exact (Bool.and_true _).trans (emp_of hE 0 rfl)) fun _ _ _ _ _ _ _ us ws its us' h1 h2 h4 h3 => match us, ws, its, h1, h2, h4, h3 with | [a0, a1], [], [c0], _, _, _, h3 => ⟨_, rfl, by cases h3; rfl⟩
theorem b4 (hE : pd.ex K = true) (F : e33.d.Is K fd) : BindP (pd.tx K w) fd e33.ps 3 [] [.inl 0, .inl 1, .inl 2] := bind_dfl F (js := []) (by nofun) (by rfl) fun _ _ _ _ _ _ _ us ws its us' h1 h2 h4 h3 => match us, ws, its, h1, h2, h4, h3 with | [a0, a1, a2], [], [c0], _, _, _, h3 => ⟨_, rfl, by cases h3; rfl⟩
theorem b5 (hE : pd.ex K = true) (F : e34.d.Is K fd) : BindP (pd.tx K w) fd e34.ps 2 [] [.inl 0, .inl 1] := bind_plain F rfl fun _ _ _ _ _ _ us ws us' h1 h2 h3 => match us, ws, h1, h2, h3 with | [a0, a1], [], _, _, h3 => by cases h3; rfl
theorem b6 (hE : pd.ex K = true) (F : e35.d.Is K fd) : BindP (pd.tx K w) fd e35.ps 1 [] [.inl 0] := bind_plain F rfl fun _ _ _ _ _ _ us ws us' h1 h2 h3 => match us, ws, h1, h2, h3 with | [a0], [], _, _, h3 => by cases h3; rfl
theorem b7 (hE : pd.ex K = true) (F : e36.d.Is K fd) : BindP (pd.tx K w) fd e36.ps 1 [] [.inl 0] := bind_plain F rfl fun _ _ _ _ _ _ us ws us' h1 h2 h3 => match us, ws, h1, h2, h3 with | [a0], [], _, _, h3 => by cases h3; rfl
theorem b8 (hE : pd.ex K = true) (F : e37.d.Is K fd) : BindP (pd.tx K w) fd e37.ps 1 [] [.inl 0] := bind_plain F rfl fun _ _ _ _ _ _ us ws us' h1 h2 h3 => match us, ws, h1, h2, h3 with | [a0], [], _, _, h3 => by cases h3; rfl
theorem b9 (hE : pd.ex K = true) (F : e39.d.Is K fd) : BindP (pd.tx K w) fd e39.ps 2 [] [.inl 0, .inl 1] := bind_plain F rfl fun _ _ _ _ _ _ us ws us' h1 h2 h3 => match us, ws, h1, h2, h3 with | [a0, a1], [], _, _, h3 => by cases h3; rfl
theorem b10 (hE : pd.ex K = true) (F : e40.d.Is K fd) : BindP (pd.tx K w) fd e40.ps 2 [] [.inl 0, .inl 1] := bind_plain F rfl fun _ _ _ _ _ _ us ws us' h1 h2 h3 => match us, ws, h1, h2, h3 with | [a0, a1], [], _, _, h3 => by cases h3; rfl
theorem b11 (hE : pd.ex K = true) (F : e43.d.Is K fd) : BindP (pd.tx K w) fd e43.ps 1 [] [.inl 0] := bind_plain F rfl fun _ _ _ _ _ _ us ws us' h1 h2 h3 => match us, ws, h1, h2, h3 with | [a0], [], _, _, h3 => by cases h3; rfl
theorem b12 (hE : pd.ex K = true) (F : e45.d.Is K fd) : BindP (pd.tx K w) fd e45.ps 1 [] [.inl 0] := bind_plain F rfl fun _ _ _ _ _ _ us ws us' h1 h2 h3 => match us, ws, h1, h2, h3 with | [a0], [], _, _, h3 => by cases h3; rfl
theorem b13 (hE : pd.ex K = true) (F : e46.d.Is K fd) : BindP (pd.tx K w) fd e46.ps 1 [] [.inl 0] := bind_plain F rfl fun _ _ _ _ _ _ us ws us' h1 h2 h3 => match us, ws, h1, h2, h3 with | [a0], [], _, _, h3 => by cases h3; rfl
theorem b14 (hE : pd.ex K = true) (F : e1001.d.Is K fd) : BindP (pd.tx K w) fd e1001.ps 2 [] [.inl 0, .inl 1] := bind_plain F rfl fun _ _ _ _ _ _ us ws us' h1 h2 h3 => match us, ws, h1, h2, h3 with | [a0, a1], [], _, _, h3 => by cases h3; rfl
theorem b15 (hE : pd.ex K = true) (F : e1139.d.Is K fd) : BindP (pd.tx K w) fd e1139.ps 2 [] [.inl 0, .inl 1] := bind_plain F rfl fun _ _ _ _ _ _ us ws us' h1 h2 h3 => match us, ws, h1, h2, h3 with | [a0, a1], [], _, _, h3 => by cases h3; rfl
theorem b16 (hE : pd.ex K = true) (F : e1140.d.Is K fd) : BindP (pd.tx K w) fd e1140.ps 4 [] [.inl 0, .inl 1, .inl 2, .inl 3] := bind_plain F rfl fun _ _ _ _ _ _ us ws us' h1 h2 h3 => match us, ws, h1, h2, h3 with | [a0, a1, a2, a3], [], _, _, h3 => by cases h3; rfl
theorem b17 (hE : pd.ex K = true) (F : e1141.d.Is K fd) : BindP (pd.tx K w) fd e1141.ps 2 [] [.inl 0, .inl 1] := bind_plain F rfl fun _ _ _ _ _ _ us ws us' h1 h2 h3 => match us, ws, h1, h2, h3 with | [a0, a1], [], _, _, h3 => by cases h3; rfl
theorem b18 (hE : pd.ex K = true) (F : e1142.d.Is K fd) : BindP (pd.tx K w) fd e1142.ps 2 [] [.inl 0, .inl 1] := bind_plain F rfl fun _ _ _ _ _ _ us ws us' h1 h2 h3 => match us, ws, h1, h2, h3 with | [a0, a1], [], _, _, h3 => by cases h3; rfl
theorem b19 (hE : pd.ex K = true) (F : e1143.d.Is K fd) : BindP (pd.tx K w) fd e1143.ps 2 [] [.inl 0, .inl 1] := bind_plain F rfl fun _ _ _ _ _ _ us ws us' h1 h2 h3 => match us, ws, h1, h2, h3 with | [a0, a1], [], _, _, h3 => by cases h3; rfl
theorem b20 (hE : pd.ex K = true) (F : e1144.d.Is K fd) : BindP (pd.tx K w) fd e1144.ps 1 [] [.inl 0] := bind_plain F rfl fun _ _ _ _ _ _ us ws us' h1 h2 h3 => match us, ws, h1, h2, h3 with | [a0], [], _, _, h3 => by cases h3; rfl
theorem b21 (hE : pd.ex K = true) (F : e1145.d.Is K fd) : BindP (pd.tx K w) fd e1145.ps 1 [] [.inl 0] := bind_plain F rfl fun _ _ _ _ _ _ us ws us' h1 h2 h3 => match us, ws, h1, h2, h3 with | [a0], [], _, _, h3 => by cases h3; rfl
theorem b22 (hE : pd.ex K = true) (F : e1146.d.Is K fd) : BindP (pd.tx K w) fd e1146.ps 2 [] [.inl 0, .inl 1] := bind_plain F rfl fun _ _ _ _ _ _ us ws us' h1 h2 h3 => match us, ws, h1, h2, h3 with | [a0, a1], [], _, _, h3 => by cases h3; rfl
theorem binds_ok (hE : pd.ex K = true) : pd.Binds K w := binds_of pd_ok (by
  show ∀ b ∈ U.binds, _
  refine List.forall_mem_cons.mpr ⟨⟨e9, List.mem_of_getElem? (i := 0) rfl, rfl, fun fd F => b0 hE F⟩, ?_⟩
  refine List.forall_mem_cons.mpr ⟨⟨e31, List.mem_of_getElem? (i := 1) rfl, rfl, fun fd F => b1 hE F⟩, ?_⟩
  refine List.forall_mem_cons.mpr ⟨⟨e32, List.mem_of_getElem? (i := 2) rfl, rfl, fun fd F => b2 hE F⟩, ?_⟩
  refine List.forall_mem_cons.mpr ⟨⟨e33, List.mem_of_getElem? (i := 3) rfl, rfl, fun fd F => b3 hE F⟩, ?_⟩
  refine List.forall_mem_cons.mpr ⟨⟨e33, List.mem_of_getElem? (i := 3) rfl, rfl, fun fd F => b4 hE F⟩, ?_⟩
  refine List.forall_mem_cons.mpr ⟨⟨e34, List.mem_of_getElem? (i := 4) rfl, rfl, fun fd F => b5 hE F⟩, ?_⟩
  refine List.forall_mem_cons.mpr ⟨⟨e35, List.mem_of_getElem? (i := 5) rfl, rfl, fun fd F => b6 hE F⟩, ?_⟩
  refine List.forall_mem_cons.mpr ⟨⟨e36, List.mem_of_getElem? (i := 6) rfl, rfl, fun fd F => b7 hE F⟩, ?_⟩
  refine List.forall_mem_cons.mpr ⟨⟨e37, List.mem_of_getElem? (i := 7) rfl, rfl, fun fd F => b8 hE F⟩, ?_⟩
  refine List.forall_mem_cons.mpr ⟨⟨e39, List.mem_of_getElem? (i := 8) rfl, rfl, fun fd F => b9 hE F⟩, ?_⟩
  refine List.forall_mem_cons.mpr ⟨⟨e40, List.mem_of_getElem? (i := 9) rfl, rfl, fun fd F => b10 hE F⟩, ?_⟩
  refine List.forall_mem_cons.mpr ⟨⟨e43, List.mem_of_getElem? (i := 10) rfl, rfl, fun fd F => b11 hE F⟩, ?_⟩
  refine List.forall_mem_cons.mpr ⟨⟨e45, List.mem_of_getElem? (i := 11) rfl, rfl, fun fd F => b12 hE F⟩, ?_⟩
  refine List.forall_mem_cons.mpr ⟨⟨e46, List.mem_of_getElem? (i := 12) rfl, rfl, fun fd F => b13 hE F⟩, ?_⟩
  refine List.forall_mem_cons.mpr ⟨⟨e1001, List.mem_of_getElem? (i := 14) rfl, rfl, fun fd F => b14 hE F⟩, ?_⟩
  refine List.forall_mem_cons.mpr ⟨⟨e1139, List.mem_of_getElem? (i := 13) rfl, rfl, fun fd F => b15 hE F⟩, ?_⟩
  refine List.forall_mem_cons.mpr ⟨⟨e1140, List.mem_of_getElem? (i := 15) rfl, rfl, fun fd F => b16 hE F⟩, ?_⟩
  refine List.forall_mem_cons.mpr ⟨⟨e1141, List.mem_of_getElem? (i := 16) rfl, rfl, fun fd F => b17 hE F⟩, ?_⟩
  refine List.forall_mem_cons.mpr ⟨⟨e1142, List.mem_of_getElem? (i := 17) rfl, rfl, fun fd F => b18 hE F⟩, ?_⟩
  refine List.forall_mem_cons.mpr ⟨⟨e1143, List.mem_of_getElem? (i := 18) rfl, rfl, fun fd F => b19 hE F⟩, ?_⟩
  refine List.forall_mem_cons.mpr ⟨⟨e1144, List.mem_of_getElem? (i := 19) rfl, rfl, fun fd F => b20 hE F⟩, ?_⟩
  refine List.forall_mem_cons.mpr ⟨⟨e1145, List.mem_of_getElem? (i := 20) rfl, rfl, fun fd F => b21 hE F⟩, ?_⟩
  refine List.forall_mem_cons.mpr ⟨⟨e1146, List.mem_of_getElem? (i := 21) rfl, rfl, fun fd F => b22 hE F⟩, ?_⟩
  nofun)
end
abbrev R : PySem.W.OpenRow := PySem.W.OpenLaw.row PySem.Challenge.rw_lonechild_k26_up_sets
def looseN : List PySem.Str := ["_wall", "counted", "is_at_least", "least_of", "UpSet", "_law_source", "_law_draw", "_law_tuples", "_law_grid", "_law_is_over", "_law_is_in", "_law_least", "_law_smallest", "_law_is_shown"]
def hk : PySem.W.Hook := hookL 7 pd.ex (pd.tab.map (·.d))
def ob (s : PySem.W.SharedT) : hk.α := obsL 7 pd.ex (pd.tab.map (·.d)) s
theorem ob_eq (s : PySem.W.SharedT) : ob s = hk.obs s.abs := obsL_eq s
theorem run (w : World) : HandSHeadRun.RunEq R (PySem.W.view R.prog [17]) hk ob 4000 looseN w := by
  intro os
  kernel_rfl
end K26
end

section
set_option autoImplicit false
set_option linter.all false
set_option Elab.async false
set_option maxRecDepth 100000
set_option maxHeartbeats 4000000
open PySem PySem.W PySem.Calls PyProof.Rows Lc
theorem K26.holds_of (k : Nat) (hk : L2.Room (4 * k) callerA) (want : ∀ ns : List Int, ns.length ≤ 63 → ∃ M, callN K26.pd.prg k 1147 [.lst (ns.map .int)] [] = .ok (.bl true) M) : PySem.Challenge.rw_lonechild_k26_up_sets.Holds := by
  w_on; o_law
  refine HandSHeadRun.head_any (r := OpenLaw.row PySem.Challenge.rw_lonechild_k26_up_sets) (q := view (OpenLaw.row PySem.Challenge.rw_lonechild_k26_up_sets).prog [17]) (H := K26.hk) (ob := K26.ob) (M := 4000) (loose := K26.looseN) (d := HandSHeadRun.topDef (OpenLaw.row PySem.Challenge.rw_lonechild_k26_up_sets).prog 17) (kwd := []) K26.ob_eq
    (by kernel_rfl) (fun s => by kernel_rfl) K26.run (by kernel_rfl) (by kernel_rfl) (by kernel_rfl) (by rfl) (by first | assumption | decide +kernel) (by decide +kernel) ⟨rfl, rfl, rfl, rfl, rfl, by decide +kernel⟩ ?hw ?hc
  case hw => w_witness2
  case hc =>
    refine walk_l (l := PySem.Challenge.rw_lonechild_k26_up_sets) (p := K26.pd) (k := k) (e := K26.e1147) (n := 63) rfl (by decide) (by kernel_rfl) hk K26.pd_ok (fun K w => K26.binds_ok) (List.mem_of_getElem? (i := 22) rfl) (by kernel_rfl) (by kernel_rfl) rfl rfl (fun F s u => L2.FunD.bindsA (ps := ["_law_script"]) F (fun _ _ _ _ _ _ us hl => match us, hl with | [_], _ => rfl) s [u] rfl) want
end

section
set_option autoImplicit false
set_option linter.all false
set_option Elab.async false
set_option maxRecDepth 100000
/-! H26: what the laws on up-sets have of their own. -/
namespace Mi
open Lc PySem
section
variable {G : Prg} {k : Nat} {M : Store}
/-- a drawn tuple -/
theorem tuple_drawn (hd : G.fn 1001 = some Fh_draw) {n B : Nat} {o : AO} {w most : Int} {many : Int} {L : Lc.Loc} (hL : L = [some (.loc n), some (.int w), some (.int many), some (.int most), none, none] ∨ ∃ x, L = [some (.loc n), some (.int w), some (.int many), some (.int most), none, x]) (hM : M[n]? = some o) (ho : Src B o) (hB : B + 4 < 2 ^ 100) (h0 : 0 < most) (h1 : most < 2 ^ 200) (w0 : 0 ≤ w) (w1 : w ≤ 3) :
    ∃ (t : List Int) (o' : AO), evE (FE G (k + 1)) h_tuples_c0 L M = .ok (.lst (t.map .int)) (M.set n o') ∧ Src (B + 3) o' ∧ t.length = w.toNat ∧ ∀ x ∈ t, 0 ≤ x ∧ x < most := by
  obtain ⟨x5, rfl⟩ : ∃ x, L = [some (.loc n), some (.int w), some (.int many), some (.int most), none, x] := by
    rcases hL with h | h
    · exact ⟨none, h⟩
    · exact h
  obtain ⟨ys, o', e, h2, h3, h4⟩ := comp_draws (E := FE G (k + 1)) (p := .v 4) (vars := [4]) (it := .rng [.slot 1]) (e := .call 1001 [.slot 0, .slot 3] [] [.inl 0, .inl 1]) (L := [some (.loc n), some (.int w), some (.int many), some (.int most), none, x5]) (M := M) (M1 := M) (c := 1) (fun y => ∃ a : Int, y = .int a ∧ 0 ≤ a ∧ a < most)
    (d := .lst (rangeD 0 w.toNat)) (xs := rangeD 0 w.toNat) (by
      have c : w < 2 ^ 62 ∧ -(2 ^ 62) ≤ w := by
        have : (2 : Int) ^ 62 = 4611686018427387904 := by decide
        omega
      simp only [ev_rng, evEs_slot, evEs_none, ev_slotS, ev_slot0, Res.bind_ok, c, and_self, if_true]) rfl (fun _ => rfl) (by
      rw [rangeD_len]
      have : line = 16777216 := rfl
      omega) hM ho (fun i x acc o1 hi hs => by
      have hi2 := (List.getElem?_eq_some_iff.mp hi).1
      rw [rangeD_len] at hi2
      refine ⟨_, rfl, ?_⟩
      have hn := (List.getElem?_eq_some_iff.mp hM).1
      have hM1 : (M.set n o1 ++ [AO.lst acc])[n]? = some o1 := by
        rw [List.getElem?_append_left (by simpa using hn), List.getElem?_set_self hn]
      obtain ⟨d, o2, e, s2, d0, d1⟩ := ev_draw (k := k) (i := 0) (L := (wipeL [some (.loc n), some (.int w), some (.int many), some (.int most), none, x5] [4]).set 4 (some x)) (em := .slot 3) hd rfl rfl (m := most) (by simp) hM1 hs (by omega) h0 h1
      refine ⟨.int d, o2, ?_, ?_, ⟨d, rfl, d0, d1⟩, rfl⟩
      · rw [e]
        congr 1
        rw [List.set_append, if_pos (by simpa using hn), List.set_set]
      · exact s2.mono (by omega))
  obtain ⟨t, rfl, q⟩ := as_map h4
  refine ⟨t, o', e, h2.mono (by rw [rangeD_len]; omega), by simpa using h3, q⟩
theorem tuples (hd : G.fn 1001 = some Fh_draw) (hf : G.fn 1140 = some Fh_tuples) {n B : Nat} {o : AO} {w many most : Int} (hM : M[n]? = some o) (ho : Src B o) (hB : B + 100 < 2 ^ 100) (h0 : 0 < most) (h1 : most < 2 ^ 200) (w0 : 0 ≤ w) (w1 : w ≤ 3) (m0 : 0 ≤ many) (m1 : many ≤ 7) :
    ∃ (ts : List (List Int)) (o' : AO), callN G (k + 2) 1140 [.loc n, .int w, .int many, .int most] M = .ok (.lst (ts.map dT)) (M.set n o') ∧ Src (B + 40) o' ∧ ts.length ≤ many.toNat ∧ ∀ t ∈ ts, t.length = w.toNat ∧ ∀ x ∈ t, 0 ≤ x ∧ x < most := by
  rw [callN_fn hf rfl]
  obtain ⟨m, o1, e1, s1, hm0, hm1⟩ := ev_draw (k := k) (i := 0) (L := [some (.loc n), some (.int w), some (.int many), some (.int most), none, none]) (em := .bin .add false (.slot 2) (.lit (.int 1))) hd rfl rfl (m := many + 1) (M := M) (by simp [binE, binop]) hM ho (by omega) (by omega) (by
    have : (2 : Int) ^ 200 > 100 := by decide
    omega)
  have hn := (List.getElem?_eq_some_iff.mp hM).1
  obtain ⟨ys, o', e, h2, h3, h4⟩ := comp_draws (E := FE G (k + 1)) (p := .v 5) (vars := [5]) (it := .rng [.call 1001 [.slot 0, .bin .add false (.slot 2) (.lit (.int 1))] [] [.inl 0, .inl 1]]) (e := .bf .tuple false [h_tuples_c0]) (L := [some (.loc n), some (.int w), some (.int many), some (.int most), none, none]) (M := M) (M1 := M.set n o1) (n := n) (o := o1) (B := B + 1) (c := 3) (fun y => ∃ t : List Int, y = dT t ∧ (t.length = w.toNat ∧ ∀ x ∈ t, 0 ≤ x ∧ x < most))
    (d := .lst (rangeD 0 m.toNat)) (xs := rangeD 0 m.toNat) (by
      have c : m < 2 ^ 62 ∧ -(2 ^ 62) ≤ m := by
        have : (2 : Int) ^ 62 = 4611686018427387904 := by decide
        omega
      simp only [ev_rng, evEs_call, evEs_none, e1, Res.bind_ok, c, and_self, if_true]) rfl (fun _ => rfl) (by
      rw [rangeD_len]
      have : line = 16777216 := rfl
      omega) (get_set hM) s1 (fun i x acc o2 hi hs => by
      have hi2 := (List.getElem?_eq_some_iff.mp hi).1
      rw [rangeD_len] at hi2
      refine ⟨_, rfl, ?_⟩
      have hM1 : ((M.set n o1).set n o2 ++ [AO.lst acc])[n]? = some o2 := by
        rw [List.getElem?_append_left (by simpa using hn), List.getElem?_set_self (by simpa using hn)]
      obtain ⟨t, o3, e, s2, q1, q2⟩ := tuple_drawn (k := k) (L := (wipeL [some (.loc n), some (.int w), some (.int many), some (.int most), none, none] [5]).set 5 (some x)) (many := many) hd (.inr ⟨some x, rfl⟩) hM1 hs (by omega) h0 h1 w0 w1
      have hl : (t.map D.int).length ≤ line := by
        rw [List.length_map, q1]
        have : line = 16777216 := rfl
        omega
      refine ⟨dT t, o3, ?_, s2.mono (by omega), ⟨t, rfl, q1, q2⟩, by simp⟩
      simp only [ev_bf, evEs_comp, evEs_none, e, Res.bind_ok, bfD, bfun, items_l, newT_ok hl]
      congr 1
      rw [List.set_append, if_pos (by simpa using hn), List.set_set, List.set_set]
      )
  obtain ⟨ts, rfl, q⟩ := as_map h4
  refine ⟨ts, o', ?_, h2.mono (by rw [rangeD_len]; omega), by rw [List.length_map, rangeD_len] at h3; omega, q⟩
  rw [List.set_set] at e
  have hu : D.under M.length (.lst (ts.map dT)) = true := by rw [under_lst]; exact underL_map (fun a => under_dT _ a) _
  simp [Fh_tuples, h_tuples, eb_cons, e]
  exact trunc_set0 hu h2.under
/-! ### all tuples -/
def ext1 (most : Nat) (t : List Int) : List (List Int) := (List.range most).map fun (i : Nat) => t ++ [(i : Int)]
def gridF (most : Nat) : Nat → List (List Int)
  | 0 => [[]]
  | n + 1 => (gridF most n).flatMap (ext1 most)
theorem ext1_len (most : Nat) (l : List (List Int)) : (l.flatMap (ext1 most)).length = l.length * most := by
  induction l with
  | nil => simp
  | cons a l ih =>
    rw [List.flatMap_cons, List.length_append, ih, List.length_cons, Nat.add_mul]
    simp [ext1, Nat.add_comm]
theorem gridF_len (most : Nat) : ∀ n, (gridF most n).length = most ^ n
  | 0 => rfl
  | n + 1 => by rw [gridF, ext1_len, gridF_len most n, Nat.pow_succ]
theorem gridF_wide (most : Nat) : ∀ n, ∀ t ∈ gridF most n, t.length = n ∧ ∀ x ∈ t, 0 ≤ x ∧ x < most
  | 0, t, h => by rw [List.mem_singleton.mp h]; exact ⟨rfl, nofun⟩
  | n + 1, t, h => by
    obtain ⟨u, hu, ht⟩ := List.mem_flatMap.mp h
    obtain ⟨i, hi, rfl⟩ := List.mem_map.mp ht
    obtain ⟨h1, h2⟩ := gridF_wide most n u hu
    refine ⟨by simp [h1], fun x hx => ?_⟩
    rcases List.mem_append.mp hx with hx | hx
    · exact h2 x hx
    · rw [List.mem_singleton.mp hx]
      have := List.mem_range.mp hi
      omega
theorem grid_turn {a b c d f g : Option D} {ls acc : List (List Int)} (hc : evE (FE G k) h_grid_c0 [a, b, c, d, some (.lst (acc.map dT)), f, g] M = .ok (.lst (ls.map dT)) M) (hn : newL false (acc.map dT ++ ls.map dT) M = .ok (.lst ((acc ++ ls).map dT)) M) :
    evB (FE G k) [.asg (.pat (.v 4)) (.bin .add false (.slot 4) (h_grid_c0))] [a, b, c, d, some (.lst (acc.map dT)), f, g] M = .nx [a, b, c, d, some (.lst ((acc ++ ls).map dT)), f, g] M := by
  simp [eb_cons, hc, binE, binop, hn]
theorem grid_outer {a b c d f g h b' d' : Option D} {x : D} (e : evS (FE G k) h_grid_l1 [a, b, c, d, some (.lst []), f, g] M = .nx [a, b, c, d, some x, b', d'] M) :
    evB (FE G k) [.asg (.pat (.v 4)) (.lst false []), h_grid_l1, .asg (.pat (.v 2)) (.slot 4)] [a, b, c, d, h, f, g] M = .nx [a, b, some x, d, some x, b', d'] M := by
  simp [eb_cons, e]
theorem pow7 {most n : Nat} (hm : most ≤ 7) (hn : n ≤ 3) : (gridF most n).length ≤ 343 := by
  rw [gridF_len]
  have h1 : most ^ n ≤ 7 ^ n := Nat.pow_le_pow_left hm n
  have h2 : 7 ^ n ≤ 7 ^ 3 := Nat.pow_le_pow_right (by decide) hn
  omega
theorem range_map {E : Fe} {L : Lc.Loc} {it : CE} {j : Nat} {e : CE} {n : Nat} (f : Nat → D) (hit : evE E it L M = .ok (.lst (rangeD 0 n)) M) (hn : n ≤ 1000000) (step : ∀ i, i < n → ∀ acc : List D, evE E e ((wipeL L [j]).set j (some (.int (i : Nat)))) (M ++ [.lst acc]) = .ok (f i) (M ++ [.lst acc])) (hu : ∀ i, i < n → (f i).under M.length = true) :
    evE E (.comp false [.mk (.v j) it []] [j] e) L M = .ok (.lst ((List.range n).map f)) M := by
  have h := (comp_map (E := E) (p := .v j) (vars := [j]) (e := e) (M := M) (M1 := M) (it := it) (d := .lst (rangeD 0 n)) (xs := rangeD 0 n) (L := L)
    (fun x => match x with | .int i => f i.toNat | _ => .non) hit rfl (by
      rw [rangeD_len]
      have : line = 16777216 := rfl
      omega) (fun x hx acc => by
      rw [rangeD_eq] at hx
      obtain ⟨i, hi, rfl⟩ := List.mem_map.mp hx
      refine ⟨_, rfl, ?_⟩
      have e0 : (0 + (i : Nat) : Int) = (i : Nat) := by omega
      rw [e0]
      exact step i (List.mem_range.mp hi) acc) (fun x hx => by
      rw [rangeD_eq] at hx
      obtain ⟨i, hi, rfl⟩ := List.mem_map.mp hx
      have e0 : (0 + (i : Nat) : Int).toNat = i := by omega
      simp only [e0]
      exact hu i (List.mem_range.mp hi))).1
  rw [h, rangeD_eq, List.map_map]
  refine congrArg (fun z => Res.ok (D.lst z) M) (List.map_congr_left fun i _ => ?_)
  have e0 : (0 + (i : Nat) : Int).toNat = i := by omega
  simp only [Function.comp_def, e0]
theorem grid_c0 {most : Nat} {t : List Int} {a c d f g : Option D} (hm : most ≤ 7) (ht : t.length ≤ 3) : evE (FE G k) h_grid_c0 [a, some (.int most), c, d, f, some (dT t), g] M = .ok (.lst ((ext1 most t).map dT)) M := by
  have h := range_map (E := FE G k) (M := M) (L := [a, some (.int most), c, d, f, some (dT t), g]) (it := .rng [.slot 1]) (j := 6) (e := .bin .add false (.slot 5) (.tup [.slot 6])) (n := most) (fun i => dT (t ++ [(i : Int)]))
    (rng1 (n := (most : Nat)) (by simp) (by omega) (by omega)) (by omega) (fun i hi acc => by
      have hl : (t.map D.int ++ [D.int (i : Nat)]).length ≤ line := by
        have : line = 16777216 := rfl
        simp
        omega
      have hd : D.tup (t.map D.int ++ [D.int (i : Nat)]) = dT (t ++ [(i : Int)]) := by simp
      rw [← hd]
      simp only [wipe_cons, wipe_nil, List.set_cons_succ, List.set_cons_zero, ev_bin, ev_slotS, ev_slot0, ev_tup, evEs_slot, evEs_none, Res.bind_ok, newT_1]
      show newT (t.map D.int ++ [D.int (i : Nat)]) _ = _
      exact newT_ok hl) (fun i hi => under_dT _ _)
  rw [h]
  simp [ext1]
theorem grid_inner {most n : Nat} {a d b f : Option D} (hm : most ≤ 7) (hn : n < 3) : ∃ b' d', evS (FE G k) h_grid_l1 [a, some (.int most), some (.lst ((gridF most n).map dT)), d, some (.lst []), b, f] M = .nx [a, some (.int most), some (.lst ((gridF most n).map dT)), d, some (.lst ((gridF most (n + 1)).map dT)), b', d'] M := by
  have hw := gridF_wide most n
  have hb := pow7 hm (show n ≤ 3 by omega)
  rw [show gridF most (n + 1) = (gridF most n).flatMap (ext1 most) from rfl]
  generalize gridF most n = g at hw hb
  obtain ⟨L1, M1, e1, ⟨b', d', rfl⟩, hM⟩ := for_nx (E := FE G k) (p := .v 5) (it := .slot 2) (M := M) (M1 := M) (d := .lst (g.map dT)) (xs := g.map dT)
    (L := [a, some (.int most), some (.lst (g.map dT)), d, some (.lst []), b, f]) (body := [.asg (.pat (.v 4)) (.bin .add false (.slot 4) (h_grid_c0))]) (by simp) rfl
    (fun i L1 M1 => (∃ b' d', L1 = [a, some (.int most), some (.lst (g.map dT)), d, some (.lst (((g.take i).flatMap (ext1 most)).map dT)), b', d']) ∧ M1 = M) ⟨⟨b, f, by simp⟩, rfl⟩ (fun i x L1 M1 hx hI => by
      obtain ⟨⟨b', d', rfl⟩, hM⟩ := hI
      rw [hM]
      rw [List.getElem?_map] at hx
      obtain ⟨t, ht, rfl⟩ := Option.map_eq_some_iff.mp hx
      have htm := hw t (List.mem_of_getElem? ht)
      have et : g.take (i + 1) = g.take i ++ [t] := by rw [List.take_add_one, ht]; rfl
      have hal : ((g.take i).flatMap (ext1 most)).length ≤ 2401 := by
        rw [ext1_len, List.length_take]
        have : min i g.length * most ≤ 343 * 7 := Nat.mul_le_mul (by omega) hm
        omega
      have e2 : (g.take (i + 1)).flatMap (ext1 most) = (g.take i).flatMap (ext1 most) ++ ext1 most t := by rw [et, List.flatMap_append]; simp
      rw [e2]
      generalize (g.take i).flatMap (ext1 most) = acc at hal
      have hnl : newL false (acc.map dT ++ (ext1 most t).map dT) M = .ok (.lst ((acc ++ ext1 most t).map dT)) M := by
        rw [newL_ok (by
          have : line = 16777216 := rfl
          simp [ext1]
          omega), List.map_append]
      exact ⟨[a, some (.int most), some (.lst (g.map dT)), d, some (.lst (acc.map dT)), some (dT t), d'], by simp, [a, some (.int most), some (.lst (g.map dT)), d, some (.lst ((acc ++ ext1 most t).map dT)), some (dT t), d'], M, .inl (grid_turn (grid_c0 hm (by omega)) hnl), rfl, ⟨_, _, rfl⟩, rfl⟩)
  rw [List.length_map, List.take_length] at e1
  rw [hM] at e1
  exact ⟨b', d', e1⟩
theorem grid_frame (hf : G.fn 1141 = some Fh_grid) {a b x : D} {r1 r2 r3 r4 : Option D} (e : evS (FE G k) h_grid_l2 [some a, some b, some (.lst [.tup []]), none, none, none, none] M = .nx [some a, some b, some x, r1, r2, r3, r4] M) (hu : x.under M.length = true) : callN G (k + 1) 1141 [a, b] M = .ok x M := by
  rw [callN_fn hf rfl]
  simp [Fh_grid, h_grid, eb_cons, e]
  exact trunc_self hu
theorem grid (hf : G.fn 1141 = some Fh_grid) {w most : Nat} (hw : w ≤ 3) (hm : most ≤ 7) : callN G (k + 1) 1141 [.int w, .int most] M = .ok (.lst ((gridF most w).map dT)) M := by
  obtain ⟨L1, M1, e1, ⟨a, b, c, d, rfl⟩, hM⟩ := for_nx (E := FE G k) (p := .v 3) (it := .rng [.slot 0]) (M := M) (M1 := M) (d := .lst (rangeD 0 w)) (xs := rangeD 0 w)
      (L := [some (.int w), some (.int most), some (.lst [.tup []]), none, none, none, none]) (body := [.asg (.pat (.v 4)) (.lst false []), h_grid_l1, .asg (.pat (.v 2)) (.slot 4)]) (rng1 (n := (w : Nat)) (by simp) (by omega) (by omega)) rfl
      (fun i L1 M1 => (∃ a b c d, L1 = [some (.int w), some (.int most), some (.lst ((gridF most i).map dT)), a, b, c, d]) ∧ M1 = M) ⟨⟨_, _, _, _, rfl⟩, rfl⟩ (fun i x L1 M1 hx hI => by
        obtain ⟨⟨a, b, c, d, rfl⟩, hM⟩ := hI
        rw [hM]
        have hi := (List.getElem?_eq_some_iff.mp hx).1
        rw [rangeD_len] at hi
        obtain ⟨b', d', e⟩ := grid_inner (G := G) (k := k) (M := M) (a := some (.int w)) (d := some x) (b := c) (f := d) hm (show i < 3 by omega)
        exact ⟨[some (.int w), some (.int most), some (.lst ((gridF most i).map dT)), some x, b, c, d], by simp, [some (.int w), some (.int most), some (.lst ((gridF most (i + 1)).map dT)), some x, some (.lst ((gridF most (i + 1)).map dT)), b', d'], M, .inl (grid_outer e), rfl, ⟨_, _, _, _, rfl⟩, rfl⟩)
  rw [rangeD_len] at e1
  have hu : D.under M.length (.lst ((gridF most w).map dT)) = true := by rw [under_lst]; exact underL_map (fun a => under_dT _ a) _
  rw [hM] at e1
  exact grid_frame hf e1 hu
/-! ### over -/
theorem geq_at : ∀ (a b : List Int), a.length = b.length → ((List.range a.length).all fun i => decide (b.getD i 0 ≤ a.getD i 0)) = geqI a b
  | [], [], _ => rfl
  | x :: xs, y :: ys, h => by
    have ih := geq_at xs ys (by simpa using h)
    rw [List.length_cons, List.range_succ_eq_map, List.all_cons, List.all_map]
    simp only [Function.comp_def, Nat.succ_eq_add_one, List.getD_cons_succ, List.getD_cons_zero, ih]
    rfl
  | [], _ :: _, h => by cases h
  | _ :: _, [], h => by cases h
theorem is_over (hf : G.fn 1142 = some Fh_is_over) {a b : List Int} (hl : a.length = b.length) (h3 : a.length ≤ 3) : callN G (k + 1) 1142 [dT a, dT b] M = .ok (.bl (geqI a b)) M := by
  rw [callN_fn hf rfl]
  have l0 : line = 16777216 := rfl
  have c62 : (2 : Int) ^ 62 = 4611686018427387904 := by decide
  have hc : evE (FE G k) h_is_over_c0 [some (dT a), some (dT b), none] M = .ok (.lst (((List.range a.length).map fun i => decide (b.getD i 0 ≤ a.getD i 0)).map .bl)) M := by
    have h := (comp_map (E := FE G k) (p := .v 2) (vars := [2]) (e := .cmp .ge (.sub (.slot 0) (.slot 2)) (.sub (.slot 1) (.slot 2))) (M := M) (M1 := M) (it := .rng [.bf .len false [.slot 0]]) (d := .lst (rangeD 0 a.length)) (xs := rangeD 0 a.length)
      (L := [some (dT a), some (dT b), none])
      (fun x => match x with | .int i => .bl (decide (b.getD i.toNat 0 ≤ a.getD i.toNat 0)) | _ => .non) (by
        exact rng1 (n := (a.length : Nat)) (by simp [bfD, bfun]) (by omega) (by omega)) rfl (by rw [rangeD_len]; omega) (fun x hx acc => by
        rw [rangeD_eq] at hx
        obtain ⟨j, hj, rfl⟩ := List.mem_map.mp hx
        have hj := List.mem_range.mp hj
        have e1 : L2.atI (a.map D.int) (0 + (j : Nat) : Int) = some (.int (a.getD j 0)) := by
          rw [Int.zero_add]
          exact L2.atI_nat (by rw [List.getElem?_map, List.getElem?_eq_getElem hj]; simp [List.getD, hj])
        have hj2 : j < b.length := by omega
        have e2 : L2.atI (b.map D.int) (0 + (j : Nat) : Int) = some (.int (b.getD j 0)) := by
          rw [Int.zero_add]
          exact L2.atI_nat (by rw [List.getElem?_map, List.getElem?_eq_getElem hj2]; simp [List.getD, hj2])
        refine ⟨_, rfl, ?_⟩
        have e3 : (0 + (j : Nat) : Int).toNat = j := by omega
        simp only [ev_cmp, ev_sub, ev_slotS, ev_slot0, wipe_cons, wipe_nil, List.set_cons_succ, List.set_cons_zero, Res.bind_ok, subE, Lc.index, view_t, e1, e2, cmpE, cmpop, view_i, e3]) (fun x hx => by
        rw [rangeD_eq] at hx
        obtain ⟨j, _, rfl⟩ := List.mem_map.mp hx
        rfl)).1
    rw [h, rangeD_eq]
    rw [List.map_map, List.map_map]
    refine congrArg (fun z => Res.ok (D.lst z) M) ?_
    refine List.map_congr_left fun j _ => ?_
    have e3 : (0 + (j : Nat) : Int).toNat = j := by omega
    simp only [Function.comp_def, e3]
  simp [Fh_is_over, h_is_over, eb_cons, hc, bfD, bfun, litems, bools_map, -List.map_map]
  rw [← geq_at a b hl]
  simp [List.all_map, Function.comp_def]
end
end Mi
end

section
set_option autoImplicit false
set_option linter.all false
set_option Elab.async false
set_option maxRecDepth 100000
/-! P26: the plain law of up-sets. -/
namespace Mi
open Lc
theorem sorted_ext {α : Type} {lt : α → α → Prop} (asym : ∀ a b, lt a b → ¬ lt b a) : ∀ {l1 l2 : List α}, l1.Pairwise lt → l2.Pairwise lt → (∀ x, x ∈ l1 ↔ x ∈ l2) → l1 = l2
  | [], [], _, _, _ => rfl
  | [], b :: l2, _, _, h => by have := (h b).mpr (.head _); cases this
  | a :: l1, [], _, _, h => by have := (h a).mp (.head _); cases this
  | a :: l1, b :: l2, p1, p2, h => by
    obtain ⟨q1, r1⟩ := List.pairwise_cons.mp p1
    obtain ⟨q2, r2⟩ := List.pairwise_cons.mp p2
    have e : a = b := by
      rcases List.mem_cons.mp ((h a).mp (.head _)) with e | e
      · exact e
      · rcases List.mem_cons.mp ((h b).mpr (.head _)) with e2 | e2
        · exact e2.symm
        · exact absurd (q1 b e2) (asym _ _ (q2 a e))
    subst e
    have : l1 = l2 := sorted_ext asym r1 r2 fun x => by
      refine ⟨fun hx => ?_, fun hx => ?_⟩
      · rcases List.mem_cons.mp ((h x).mp (.tail _ hx)) with e | e
        · subst e; exact absurd (q1 x hx) (asym _ _ (q1 x hx))
        · exact e
      · rcases List.mem_cons.mp ((h x).mpr (.tail _ hx)) with e | e
        · subst e; exact absurd (q2 x hx) (asym _ _ (q2 x hx))
        · exact e
    rw [this]
theorem ltI_asym (a b : List Int) (h : a < b) : ¬ b < a := fun h2 => List.lt_irrefl a (List.lt_trans h h2)
theorem geqI_refl : ∀ a : List Int, geqI a a = true
  | [] => rfl
  | x :: a => by simp [geqI, geqI_refl a]
theorem geqI_trans : ∀ {a b c : List Int}, a.length = b.length → geqI a b = true → geqI b c = true → geqI a c = true
  | [], [], c, _, _, h => h
  | x :: a, y :: b, [], _, _, _ => by simp [geqI]
  | x :: a, y :: b, z :: c, hl, h1, h2 => by
    simp only [geqI, Bool.and_eq_true, decide_eq_true_eq] at h1 h2 ⊢
    exact ⟨by omega, geqI_trans (by simpa using hl) h1.2 h2.2⟩
  | [], _ :: _, _, hl, _, _ => by cases hl
  | _ :: _, [], _, hl, _, _ => by cases hl
theorem geqI_anti : ∀ {a b : List Int}, a.length = b.length → geqI a b = true → geqI b a = true → a = b
  | [], [], _, _, _ => rfl
  | x :: a, y :: b, hl, h1, h2 => by
    simp only [geqI, Bool.and_eq_true, decide_eq_true_eq] at h1 h2
    rw [geqI_anti (by simpa using hl) h1.2 h2.2, show x = y by omega]
  | [], _ :: _, hl, _, _ => by cases hl
  | _ :: _, [], hl, _, _ => by cases hl
/-- what is over another one is behind it -/
theorem geqI_lt : ∀ {a b : List Int}, a.length = b.length → geqI a b = true → a ≠ b → b < a
  | [], [], _, _, h => absurd rfl h
  | x :: a, y :: b, hl, h1, h2 => by
    simp only [geqI, Bool.and_eq_true, decide_eq_true_eq] at h1
    rw [List.cons_lt_cons_iff]
    by_cases e : x = y
    · subst e
      exact .inr ⟨rfl, geqI_lt (by simpa using hl) h1.2 fun q => h2 (by rw [q])⟩
    · exact .inl (by omega)
  | [], _ :: _, hl, _, _ => by cases hl
  | _ :: _, [], hl, _, _ => by cases hl
theorem ltI_of {a b : List Int} (h : a ≤ b) (ne : a ≠ b) : a < b := by
  by_cases q : a < b
  · exact q
  · exact absurd (List.le_antisymm h (List.not_lt.mp q)) ne
/-! ### the walk in order -/
def stepF (found : List (List Int)) (one : List Int) : List (List Int) := if found.any (geqI one) then found else found ++ [one]
theorem leastF_eq (ts : List (List Int)) : leastF ts = ts.foldl stepF [] := rfl
theorem fold_mono : ∀ (ts f : List (List Int)), ∀ x ∈ f, x ∈ ts.foldl stepF f
  | [], f, x, h => h
  | t :: ts, f, x, h => by
    rw [List.foldl_cons]
    refine fold_mono ts _ x ?_
    unfold stepF
    split
    · exact h
    · exact List.mem_append_left _ h
/-- each one is over one that is kept -/
theorem fold_cover : ∀ (ts f : List (List Int)), ∀ y ∈ ts, ∃ z ∈ ts.foldl stepF f, geqI y z = true
  | [], f, y, h => by cases h
  | t :: ts, f, y, h => by
    rw [List.foldl_cons]
    rcases List.mem_cons.mp h with rfl | h
    · by_cases q : f.any (geqI y) = true
      · obtain ⟨z, hz, e⟩ := List.any_eq_true.mp q
        exact ⟨z, fold_mono ts _ z (by unfold stepF; rw [if_pos q]; exact hz), e⟩
      · exact ⟨y, fold_mono ts _ y (by unfold stepF; rw [if_neg q]; simp), geqI_refl y⟩
    · exact fold_cover ts _ y h
theorem fold_sorted : ∀ (ts f : List (List Int)), ts.Pairwise (· ≤ ·) → f.Pairwise (· < ·) → (∀ x ∈ f, ∀ y ∈ ts, x ≤ y) → (ts.foldl stepF f).Pairwise (· < ·)
  | [], f, _, h, _ => h
  | t :: ts, f, p, h, hb => by
    rw [List.foldl_cons]
    obtain ⟨p1, p2⟩ := List.pairwise_cons.mp p
    refine fold_sorted ts _ p2 ?_ ?_
    · unfold stepF
      split
      · exact h
      · rename_i q
        refine List.pairwise_append.mpr ⟨h, List.pairwise_singleton _ _, fun x hx y hy => ?_⟩
        rw [List.mem_singleton.mp hy]
        refine ltI_of (hb x hx t (.head _)) fun e => q ?_
        exact List.any_eq_true.mpr ⟨x, hx, by rw [e]; exact geqI_refl t⟩
    · intro x hx y hy
      unfold stepF at hx
      split at hx
      · exact hb x hx y (.tail _ hy)
      · rcases List.mem_append.mp hx with hx | hx
        · exact hb x hx y (.tail _ hy)
        · rw [List.mem_singleton.mp hx]
          exact p1 y hy
/-- none behind is over one before -/
theorem fold_anti : ∀ (ts f : List (List Int)), f.Pairwise (fun a b => geqI b a = false) → (ts.foldl stepF f).Pairwise (fun a b => geqI b a = false)
  | [], f, h => h
  | t :: ts, f, h => by
    rw [List.foldl_cons]
    refine fold_anti ts _ ?_
    unfold stepF
    split
    · exact h
    · rename_i q
      refine List.pairwise_append.mpr ⟨h, List.pairwise_singleton _ _, fun x hx y hy => ?_⟩
      rw [List.mem_singleton.mp hy]
      cases e : geqI t x with
      | false => rfl
      | true => exact absurd (List.any_eq_true.mpr ⟨x, hx, e⟩) q
theorem leI_trans (a b c : List Int) (h1 : leI a b = true) (h2 : leI b c = true) : leI a c = true := by
  simp only [decide_eq_true_eq] at h1 h2 ⊢
  exact List.le_trans h1 h2
theorem leI_total (a b : List Int) : (leI a b || leI b a) = true := by
  simp only [Bool.or_eq_true, decide_eq_true_eq]
  exact List.le_total a b
theorem sortI (ts : List (List Int)) : (ts.mergeSort leI).Pairwise (· ≤ ·) := by
  have := List.pairwise_mergeSort leI_trans leI_total ts
  exact this.imp fun h => by simpa using h
section
variable {ts : List (List Int)} {w : Nat}
theorem leastOf_sorted : (leastOf ts).Pairwise (· < ·) := fold_sorted _ [] (sortI ts) .nil nofun
theorem leastOf_cover {y : List Int} (h : y ∈ ts) : ∃ z ∈ leastOf ts, geqI y z = true := fold_cover _ [] y (List.mem_mergeSort.mpr h)
theorem pairwise_mem {α : Type} {R : α → α → Prop} : ∀ {l : List α}, l.Pairwise R → ∀ a ∈ l, ∀ b ∈ l, a = b ∨ R a b ∨ R b a
  | [], _, a, h, _, _ => by cases h
  | x :: l, p, a, ha, b, hb => by
    obtain ⟨q, r⟩ := List.pairwise_cons.mp p
    rcases List.mem_cons.mp ha with rfl | ha'
    · rcases List.mem_cons.mp hb with rfl | hb'
      · exact .inl rfl
      · exact .inr (.inl (q b hb'))
    · rcases List.mem_cons.mp hb with rfl | hb'
      · exact .inr (.inr (q a ha'))
      · exact pairwise_mem r a ha' b hb'
theorem leastOf_anti (hw : ∀ t ∈ ts, t.length = w) {x z : List Int} (hx : x ∈ leastOf ts) (hz : z ∈ leastOf ts) (h : geqI x z = true) : x = z := by
  have p : (leastOf ts).Pairwise (fun a b => a < b ∧ geqI b a = false) := List.Pairwise.and leastOf_sorted (fold_anti _ [] .nil)
  rcases pairwise_mem p x hx z hz with e | e | e
  · exact e
  · by_cases q : x = z
    · exact q
    · have := geqI_lt ((hw x (leastOf_mem hx)).trans (hw z (leastOf_mem hz)).symm) h q
      exact absurd e.1 (ltI_asym _ _ this)
  · rw [e.2] at h; cases h
theorem leastOf_iff (hw : ∀ t ∈ ts, t.length = w) (x : List Int) : x ∈ leastOf ts ↔ x ∈ ts ∧ ∀ y ∈ ts, y ≠ x → geqI x y = false := by
  refine ⟨fun hx => ⟨leastOf_mem hx, fun y hy ne => ?_⟩, fun ⟨hx, h⟩ => ?_⟩
  · cases e : geqI x y with
    | false => rfl
    | true =>
      obtain ⟨z, hz, e2⟩ := leastOf_cover hy
      have lx := hw x (leastOf_mem hx)
      have ly := hw y hy
      have e3 := geqI_trans (lx.trans ly.symm) e e2
      have := leastOf_anti hw hx hz e3
      subst this
      exact absurd (geqI_anti (ly.trans lx.symm) e2 e) ne
  · obtain ⟨z, hz, e⟩ := leastOf_cover hx
    by_cases q : z = x
    · rw [← q]; exact hz
    · rw [h z (leastOf_mem hz) q] at e
      cases e
theorem leastOf_any (hw : ∀ t ∈ ts, t.length = w) {c : List Int} (hc : c.length = w) : (leastOf ts).any (geqI c) = ts.any (geqI c) := by
  rw [Bool.eq_iff_iff, List.any_eq_true, List.any_eq_true]
  refine ⟨fun ⟨z, hz, e⟩ => ⟨z, leastOf_mem hz, e⟩, fun ⟨y, hy, e⟩ => ?_⟩
  obtain ⟨z, hz, e2⟩ := leastOf_cover hy
  exact ⟨z, hz, geqI_trans (hc.trans (hw y hy).symm) e e2⟩
end
/-! ### the law's own way -/
def keepL (ts : List (List Int)) (found : List (List Int)) (one : List Int) : List (List Int) := if !(decide (one ∈ found)) && !((ts.filter fun o => !decide (o = one)).any (geqI one)) then found ++ [one] else found
def leastL (ts : List (List Int)) : List (List Int) := (ts.foldl (keepL ts) []).mergeSort leI
def good (ts : List (List Int)) (x : List Int) : Bool := !((ts.filter fun o => !decide (o = x)).any (geqI x))
theorem keep_mem (ts : List (List Int)) : ∀ (us f : List (List Int)) (x : List Int), x ∈ us.foldl (keepL ts) f ↔ x ∈ f ∨ (x ∈ us ∧ good ts x = true)
  | [], f, x => by simp
  | u :: us, f, x => by
    rw [List.foldl_cons, keep_mem ts us _ x]
    unfold keepL
    by_cases h1 : u ∈ f
    · simp only [h1, decide_true, Bool.not_true, Bool.false_and, Bool.false_eq_true, if_false, List.mem_cons]
      constructor
      · rintro (h | h)
        · exact .inl h
        · exact .inr ⟨.inr h.1, h.2⟩
      · rintro (h | ⟨rfl | h, g⟩)
        · exact .inl h
        · exact .inl h1
        · exact .inr ⟨h, g⟩
    · cases h2 : good ts u with
      | true =>
        have e : (!(decide (u ∈ f)) && !((ts.filter fun o => !decide (o = u)).any (geqI u))) = true := by
          have : good ts u = true := h2
          unfold good at this
          simp [h1, this]
          simpa using this
        rw [if_pos e]
        simp only [List.mem_append, List.mem_cons, List.not_mem_nil, or_false]
        constructor
        · rintro ((h | rfl) | h)
          · exact .inl h
          · exact .inr ⟨.inl rfl, h2⟩
          · exact .inr ⟨.inr h.1, h.2⟩
        · rintro (h | ⟨rfl | h, g⟩)
          · exact .inl (.inl h)
          · exact .inl (.inr rfl)
          · exact .inr ⟨h, g⟩
      | false =>
        have e : ¬ (!(decide (u ∈ f)) && !((ts.filter fun o => !decide (o = u)).any (geqI u))) = true := by
          have : good ts u = false := h2
          unfold good at this
          intro q
          rw [this] at q
          simp at q
        rw [if_neg e]
        simp only [List.mem_cons]
        constructor
        · rintro (h | h)
          · exact .inl h
          · exact .inr ⟨.inr h.1, h.2⟩
        · rintro (h | ⟨rfl | h, g⟩)
          · exact .inl h
          · rw [h2] at g; cases g
          · exact .inr ⟨h, g⟩
theorem keep_nodup (ts : List (List Int)) : ∀ (us f : List (List Int)), f.Nodup → (us.foldl (keepL ts) f).Nodup
  | [], f, h => h
  | u :: us, f, h => by
    rw [List.foldl_cons]
    refine keep_nodup ts us _ ?_
    unfold keepL
    split
    · rename_i q
      simp only [Bool.and_eq_true, Bool.not_eq_true', decide_eq_false_iff_not] at q
      exact List.nodup_append.mpr ⟨h, List.pairwise_singleton _ _, fun a ha b hb => by
        rw [List.mem_singleton.mp hb]
        intro e
        exact q.1 (e ▸ ha)⟩
    · exact h
theorem leastL_eq {ts : List (List Int)} {w : Nat} (hw : ∀ t ∈ ts, t.length = w) : leastL ts = leastOf ts := by
  have nd : (leastL ts).Nodup := (List.mergeSort_perm _ _).nodup_iff.mpr (keep_nodup ts ts [] .nil)
  have st : (leastL ts).Pairwise (· < ·) := ((sortI _).and nd).imp fun h => ltI_of h.1 h.2
  refine sorted_ext ltI_asym st leastOf_sorted fun x => ?_
  rw [leastOf_iff hw x]
  unfold leastL
  rw [List.mem_mergeSort, keep_mem]
  simp only [List.not_mem_nil, false_or]
  refine and_congr_right fun hx => ?_
  unfold good
  simp only [Bool.not_eq_true', List.any_eq_false, List.mem_filter, decide_eq_false_iff_not]
  exact ⟨fun h y hy ne => by simpa using h y ⟨hy, ne⟩, fun h y q => by rw [h y q.1 q.2]; decide⟩
end Mi
end

section
set_option autoImplicit false
set_option linter.all false
set_option Elab.async false
set_option maxRecDepth 100000
/-! H26b: the law's helpers, run. -/
namespace Mi
open Lc PySem K26
structure H26 (G : Prg) : Prop where
  u : Ups G
  d : G.fn 1001 = some Fh_draw
  t : G.fn 1140 = some Fh_tuples
  g : G.fn 1141 = some Fh_grid
  o : G.fn 1142 = some Fh_is_over
section
variable {G : Prg} {k : Nat} {M : Store}
/-- [is_over(t, c) for c in ..] -/
theorem over_list (h : G.fn 1142 = some Fh_is_over) {it : CE} {i j : Nat} {L : Lc.Loc} {M1 : Store} {d : D} {t : List Int} {F : List (List Int)} (h3 : t.length ≤ 3) (hF : F.length ≤ line) (hw : ∀ c ∈ F, t.length = c.length) (hit : evE (FE G (k + 1)) it L M = .ok d M1) (hx : Lc.items M1 d = some (F.map dT)) (hi : i ≠ j) (hL : L[i]? = some (some (dT t))) (hj : j < L.length) :
    evE (FE G (k + 1)) (.comp false [.mk (.v j) it []] [j] (.call 1142 [.slot i, .slot j] [] [.inl 0, .inl 1])) L M = .ok (.lst ((F.map (geqI t)).map .bl)) M1 := by
  have h := (comp_map (E := FE G (k + 1)) (p := .v j) (vars := [j]) (e := .call 1142 [.slot i, .slot j] [] [.inl 0, .inl 1]) (L := L) (it := it)
    (fun x => match x with | .tup xs => .bl (geqI t (xs.filterMap fun | .int i => some i | _ => none)) | _ => .non) hit hx (by simpa using hF) (fun x hx acc => by
    obtain ⟨p, hp, rfl⟩ := List.mem_map.mp hx
    have e1 : evE (FE G (k + 1)) (.slot i) (L.set j (some (dT p))) (M1 ++ [.lst acc]) = .ok (dT t) (M1 ++ [.lst acc]) := ev_slot (by rw [List.getElem?_set_ne (Ne.symm hi)]; exact hL)
    have e2 : evE (FE G (k + 1)) (.slot j) (L.set j (some (dT p))) (M1 ++ [.lst acc]) = .ok (dT p) (M1 ++ [.lst acc]) := ev_slot (List.getElem?_set_self hj)
    refine ⟨_, rfl, ?_⟩
    simp [e1, e2, is_over h (hw p hp) h3, Function.comp_def]) (fun x hx => by
    obtain ⟨p, _, rfl⟩ := List.mem_map.mp hx
    simp)).1
  rw [h]
  simp [Function.comp_def]
theorem is_in (h : H26 G) (hf : G.fn 1143 = some Fh_is_in) {t : List Int} {ts : List (List Int)} (h3 : t.length ≤ 3) (hl : ts.length ≤ line) (hw : ∀ c ∈ ts, t.length = c.length) : callN G (k + 2) 1143 [dT t, .lst (ts.map dT)] M = .ok (.bl (ts.any (geqI t))) M := by
  rw [callN_fn hf rfl]
  have hc : evE (FE G (k + 1)) h_is_in_c0 [some (dT t), some (.lst (ts.map dT)), none] M = .ok (.lst ((ts.map (geqI t)).map .bl)) M :=
    over_list h.o (it := .slot 1) (i := 0) (j := 2) h3 hl hw (by simp; rfl) rfl (by decide) rfl (by simp)
  simp [Fh_is_in, h_is_in, eb_cons, hc, bfD, bfun, litems, bools_map, -List.map_map]
theorem keepL_len (ts : List (List Int)) : ∀ (us f : List (List Int)), (us.foldl (keepL ts) f).length ≤ f.length + us.length
  | [], f => by simp
  | u :: us, f => by
    rw [List.foldl_cons]
    refine Nat.le_trans (keepL_len ts us _) ?_
    unfold keepL
    split
    all_goals (simp only [List.length_append, List.length_cons, List.length_nil]; omega)
theorem keepL_step {ts us : List (List Int)} {i : Nat} {x : List Int} (h : us[i]? = some x) : (us.take (i + 1)).foldl (keepL ts) [] = keepL ts ((us.take i).foldl (keepL ts) []) x := by
  have e : us.take (i + 1) = us.take i ++ [x] := by rw [List.take_add_one, h]; rfl
  rw [e, List.foldl_append]
  rfl
theorem filter_ne (ts : List (List Int)) (t : List Int) : (ts.map dT).filterMap (fun x => if peq x (dT t) then none else some x) = (ts.filter fun o => !decide (o = t)).map dT := by
  induction ts with
  | nil => rfl
  | cons a ts ih =>
    rw [List.map_cons, List.filterMap_cons, peq_dT, ih]
    by_cases e : a = t <;> simp [e]
theorem least (h : H26 G) (hf : G.fn 1144 = some Fh_least) {ts : List (List Int)} {w : Nat} (w3 : w ≤ 3) (hl : ts.length ≤ 1000) (hw : ∀ t ∈ ts, t.length = w) : callN G (k + 2) 1144 [.lst (ts.map dT)] M = .ok (.lst ((leastL ts).map dT)) M := by
  have l0 : line = 16777216 := rfl
  obtain ⟨L1, M1, e1, ⟨a, b, c, rfl⟩, rfl⟩ := for_nx (E := FE G (k + 1)) (p := .v 2) (it := .slot 0) (M := M ++ [.lst []]) (M1 := M ++ [.lst []]) (d := .lst (ts.map dT)) (xs := ts.map dT) (L := [some (.lst (ts.map dT)), some (.loc M.length), none, none, none])
    (body := [.asg (.pat (.v 3)) (h_least_c0), .ite (.conj [.cmp .notIn (.slot 2) (.slot 1), .not (.bf .any false [h_least_c1])]) [.exp (.bm .append true (.slot 1) [.slot 2])] []]) (by simp) rfl
    (fun i L1 M1 => (∃ a b c, L1 = [some (.lst (ts.map dT)), some (.loc M.length), a, b, c]) ∧ M1 = M ++ [.lst (((ts.take i).foldl (keepL ts) []).map dT)]) ⟨⟨_, _, _, rfl⟩, rfl⟩ (fun i x L1 M1 hx hI => by
      obtain ⟨⟨a, b, c, rfl⟩, rfl⟩ := hI
      rw [List.getElem?_map] at hx
      obtain ⟨t, ht, rfl⟩ := Option.map_eq_some_iff.mp hx
      have hm := List.mem_of_getElem? ht
      have hstep := keepL_step (ts := ts) ht
      have hlen := keepL_len ts (ts.take i) []
      rw [List.length_take, List.length_nil] at hlen
      generalize (ts.take i).foldl (keepL ts) [] = F at *
      have c0 : evE (FE G (k + 1)) h_least_c0 [some (.lst (ts.map dT)), some (.loc M.length), some (dT t), b, c] (M ++ [.lst (F.map dT)]) = .ok (.lst ((ts.filter fun o => !decide (o = t)).map dT)) (M ++ [.lst (F.map dT)]) := by
        have h := (comp_pure (E := FE G (k + 1)) (p := .v 4) (vars := [4]) (ifs := [.cmp .ne (.slot 4) (.slot 2)]) (e := .slot 4) (it := .slot 0) (L := [some (.lst (ts.map dT)), some (.loc M.length), some (dT t), b, c]) (M := M ++ [.lst (F.map dT)]) (M1 := M ++ [.lst (F.map dT)])
          (d := .lst (ts.map dT)) (xs := ts.map dT) (fun x => if peq x (dT t) then none else some x) (by simp) rfl (by simp; omega) (fun x hx acc => by
            obtain ⟨p, _, rfl⟩ := List.mem_map.mp hx
            refine ⟨_, rfl, ?_, fun v hv => ⟨[], ?_, rfl⟩⟩
            · have hp : D.pure flatN (dT p) = true := pure_dT 39 p
              have hp2 : D.pure flatN (dT t) = true := pure_dT 39 t
              simp only [evIfs_cons, ev_cmp, wipe_cons, wipe_nil, List.set_cons_succ, List.set_cons_zero, ev_slotS, ev_slot0, Res.bind_ok, cmpE, cmpop, view_t, hp, hp2, Bool.and_self, if_true, truth_b, evIfs_nil]
              cases q : peq (dT p) (dT t) <;> simp [q]
            · cases q : peq (dT p) (dT t) with
              | true => rw [q] at hv; cases hv
              | false =>
                rw [q] at hv
                cases hv
                simp) (fun x hx v hv => by
            obtain ⟨p, _, rfl⟩ := List.mem_map.mp hx
            cases q : peq (dT p) (dT t) with
            | true => rw [q] at hv; cases hv
            | false =>
              rw [q] at hv
              cases hv
              exact under_dT _ p)).1
        rw [h, filter_ne]
      have c1 : evE (FE G (k + 1)) h_least_c1 [some (.lst (ts.map dT)), some (.loc M.length), some (dT t), some (.lst ((ts.filter fun o => !decide (o = t)).map dT)), c] (M ++ [.lst (F.map dT)]) = .ok (.lst (((ts.filter fun o => !decide (o = t)).map (geqI t)).map .bl)) (M ++ [.lst (F.map dT)]) :=
        over_list h.o (it := .slot 3) (i := 2) (j := 4) (by rw [hw t hm]; exact w3) (Nat.le_trans (List.length_filter_le _ _) (by omega)) (fun c hc => by rw [hw t hm, hw c (List.mem_filter.mp hc).1]) (by simp; first | rfl | exact ⟨rfl, rfl⟩) rfl (by decide) rfl (by simp)
      have hin : (if D.pure flatN (dT t) && D.pureL flatN (F.map dT) then (Res.ok (D.bl (!isin (dT t) (F.map dT))) (M ++ [AO.lst (F.map dT)])) else .bad) = .ok (.bl (!decide (t ∈ F))) (M ++ [.lst (F.map dT)]) := by
        have hd : isin (dT t) (F.map dT) = decide (t ∈ F) := by
          rw [isin_map peq_dT]
          exact decide_eq_decide.mpr Iff.rfl
        rw [show D.pure flatN (dT t) = true from pure_dT 39 t, flat_map (fun a => pure_dT 38 a), hd]
        rfl
      have hcm : cmpE (FE G (k + 1)) .notIn (dT t) (.loc M.length) (M ++ [.lst (F.map dT)]) = .ok (.bl (!decide (t ∈ F))) (M ++ [.lst (F.map dT)]) := by
        simp only [cmpE, cmpop, view_end]
        exact hin
      refine ⟨_, rfl, [some (.lst (ts.map dT)), some (.loc M.length), some (dT t), some (.lst ((ts.filter fun o => !decide (o = t)).map dT)), c], M ++ [.lst ((keepL ts F t).map dT)], .inl ?_, rfl, ⟨_, _, _, rfl⟩, by rw [hstep]⟩
      rw [eb_cons, es_asg]
      rw [show (List.set [some (D.lst (ts.map dT)), some (D.loc M.length), a, b, c] 2 (some (dT t))) = [some (.lst (ts.map dT)), some (.loc M.length), some (dT t), b, c] from rfl, c0, toS_ok, asg_v, bind_nx]
      rw [show (List.set [some (D.lst (ts.map dT)), some (D.loc M.length), some (dT t), b, c] 3 (some (D.lst ((ts.filter fun o => !decide (o = t)).map dT)))) = [some (.lst (ts.map dT)), some (.loc M.length), some (dT t), some (.lst ((ts.filter fun o => !decide (o = t)).map dT)), c] from rfl]
      have hFl : F.length < line := by
        have := (List.getElem?_eq_some_iff.mp ht).1
        omega
      generalize hO : (ts.filter fun o => !decide (o = t)) = O at *
      unfold keepL
      rw [hO]
      cases h1 : decide (t ∈ F) with
      | true => simp [eb_cons, hcm, h1]
      | false =>
        cases h2 : O.any (geqI t) with
        | true => simp [eb_cons, hcm, h1, c1, bfD, bfun, litems, bools_map, -List.map_map, h2]
        | false => simp [eb_cons, hcm, h1, c1, bfD, bfun, litems, bools_map, -List.map_map, h2, bmK, bmeth, hFl])
  rw [List.length_map, List.take_length] at e1
  have hlen := keepL_len ts ts []
  rw [List.length_nil] at hlen
  have hs := sorted_map (M := M ++ [.lst ((ts.foldl (keepL ts) []).map dT)]) (d := .loc M.length) (fun a => pure_dT 38 a) alike_dT (fun _ => rfl) dle_dT (.inl view_end) (by omega : (ts.foldl (keepL ts) []).length ≤ line)
  have hu : D.under M.length (.lst ((leastL ts).map dT)) = true := by rw [under_lst]; exact underL_map (fun a => under_dT _ a) _
  rw [callN_fn hf rfl]
  simp [Fh_least, h_least, eb_cons, e1, bfD, hs]
  exact trunc_app hu
end
end Mi
end

section
set_option autoImplicit false
set_option linter.all false
set_option Elab.async false
set_option maxRecDepth 100000
/-! H26c: an up-set is shown. -/
namespace Mi
open Lc PySem K26
section
variable {G : Prg} {k : Nat} {M : Store}
theorem meth_corners (h : Ups G) {w : Int} {ls : List (List Int)} : methOf (FE G k) M (upD w ls) "corners" = some 36 := by
  have e : (["places", "least"] : List Str).contains "corners" = false := by decide
  unfold methOf upD
  simp only [view_o, e, Bool.false_eq_true, if_false]
  exact h.mc
theorem meth_smallest (h : Ups G) {w : Int} {ls : List (List Int)} : methOf (FE G k) M (upD w ls) "smallest" = some 37 := by
  have e : (["places", "least"] : List Str).contains "smallest" = false := by decide
  unfold methOf upD
  simp only [view_o, e, Bool.false_eq_true, if_false]
  exact h.ms
theorem lenB_int {n : Int} (h : 0 ≤ n ∧ n < 4611686018427387904) : lenB (.int n) M = .ok (.int n) M := by
  unfold lenB
  exact if_pos h
theorem boolB_int {n : Int} (h : 0 ≤ n ∧ n < 4611686018427387904) : boolB (.int n) M = .ok (.bl (n != 0)) M := by
  unfold boolB
  exact if_pos h
theorem small_nat {n : Nat} (h : n ≤ 1000) : 0 ≤ (n : Int) ∧ (n : Int) < 4611686018427387904 := by omega
theorem lenD_gen {w : Int} {ls : List (List Int)} {n : Int} (hm : G.meth 10 sLen = some 43) (hlen : callN G k 43 [upD w ls] M = .ok (.int n) M) (h : 0 ≤ n ∧ n < 4611686018427387904) : bfD (FE G k) .len false [upD w ls] M = .ok (.int n) M := by
  have e : bfD (FE G k) .len false [upD w ls] M = match G.meth 10 sLen with | some g => (noexc (callN G k g [upD w ls] M)).bind lenB | none => .bad := rfl
  rw [e, hm]
  show (noexc (callN G k 43 [upD w ls] M)).bind lenB = _
  rw [hlen]
  exact lenB_int h
theorem boolD_gen {w : Int} {ls : List (List Int)} {n : Int} (hm : G.meth 10 sLen = some 43) (hlen : callN G k 43 [upD w ls] M = .ok (.int n) M) (h : 0 ≤ n ∧ n < 4611686018427387904) : bfD (FE G k) .bool false [upD w ls] M = .ok (.bl (n != 0)) M := by
  have e : bfD (FE G k) .bool false [upD w ls] M = match G.meth 10 sLen with | some g => (noexc (callN G k g [upD w ls] M)).bind boolB | none => .bad := rfl
  rw [e, hm]
  show (noexc (callN G k 43 [upD w ls] M)).bind boolB = _
  rw [hlen]
  exact boolB_int h
theorem lenD_up (h : Ups G) {w : Int} {ls : List (List Int)} (hl : ls.length ≤ 1000) : bfD (FE G (k + 1)) .len false [upD w ls] M = .ok (.int ls.length) M :=
  lenD_gen h.ml (len_up h (Nat.le_trans hl (by decide))) (small_nat hl)
theorem boolD_up (h : Ups G) {w : Int} {ls : List (List Int)} (hl : ls.length ≤ 1000) : bfD (FE G (k + 1)) .bool false [upD w ls] M = .ok (.bl ((ls.length : Int) != 0)) M :=
  boolD_gen h.ml (len_up h (Nat.le_trans hl (by decide))) (small_nat hl)
theorem reprD_up (h : Ups G) {w : Int} {ls : List (List Int)} (hl : ls.length ≤ 1000) : bfD (FE G (k + 2)) .repr false [upD w ls] M = .ok (.str ("UpSet(" ++ countT ls.length "corner" ++ ")")) M := by
  have hr := repr_up (k := k) (M := M) h (w := w) (ls := ls) (by have : line = 16777216 := rfl; omega)
  have e : bfD (FE G (k + 2)) .repr false [upD w ls] M = match G.meth 10 sRepr with | some g => (noexc (callN G (k + 2) g [upD w ls] M)).bind strB | none => .bad := rfl
  rw [e, h.mr]
  simp only [hr, noexc1, Res.bind_ok, strB]
theorem strD_up (h : Ups G) {w : Int} {ls : List (List Int)} (hl : ls.length ≤ 1000) (hw : ∀ t ∈ ls, t.length ≤ 100) (hb : ∀ t ∈ ls, ∀ x ∈ t, x.natAbs < 10 ^ 30) : bfD (FE G (k + 1)) .str false [upD w ls] M = .ok (.str (textT ls)) M := by
  have hr := str_up (k := k) (M := M) h (w := w) hl hw hb
  have e : bfD (FE G (k + 1)) .str false [upD w ls] M = match G.meth 10 sStr with | some g => (noexc (callN G (k + 1) g [upD w ls] M)).bind strB | none => .bad := rfl
  rw [e, h.mt]
  simp only [hr, noexc1, Res.bind_ok, strB]
theorem in_up (h : Ups G) {w : Int} {ls : List (List Int)} {t : List Int} (ht : t.length ≤ line) (hl : ls.length ≤ line) : cmpE (FE G (k + 2)) .inn (dT t) (upD w ls) M = .ok (.bl (ls.any (geqI t))) M := by
  have hr := contains_up (k := k) (M := M) h (w := w) ht hl
  have e : cmpE (FE G (k + 2)) .inn (dT t) (upD w ls) M = match G.meth 10 sIn with | some f => (noexc (callN G (k + 2) f [upD w ls, dT t] M)).bind isB | none => .bad := rfl
  rw [e, h.mn]
  simp only [hr, noexc1, Res.bind_ok, isB]
theorem notin_up (h : Ups G) {w : Int} {ls : List (List Int)} {t : List Int} (ht : t.length ≤ line) (hl : ls.length ≤ line) : cmpE (FE G (k + 2)) .notIn (dT t) (upD w ls) M = .ok (.bl (!ls.any (geqI t))) M := by
  have hr := contains_up (k := k) (M := M) h (w := w) ht hl
  have e : cmpE (FE G (k + 2)) .notIn (dT t) (upD w ls) M = match G.meth 10 sIn with | some f => (noexc (callN G (k + 2) f [upD w ls, dT t] M)).bind notB | none => .bad := rfl
  rw [e, h.mn]
  simp only [hr, noexc1, Res.bind_ok, notB]
theorem smallest (hf : G.fn 1145 = some Fh_smallest) {ls : List (List Int)} (hw : ∀ t ∈ ls, t.length ≤ 100) : callN G (k + 1) 1145 [.lst (ls.map dT)] M = .ok (oD (smallF ls)) M := by
  have l0 : line = 16777216 := rfl
  have sm : ∀ (L : Lc.Loc) (M : Store) (i : Nat) (t : List Int), L[i]? = some (some (dT t)) → t.length ≤ 100 → evE (FE G k) (.bf .sum false [.bf .list false [.slot i]]) L M = .ok (.int t.sum) M := by
    intro L M i t hL ht
    have hn : newL false (t.map D.int) M = .ok (.lst (t.map .int)) M := newL_ok (by simp; omega)
    simp [ev_slot hL, bfD, bfun, hn, ints_map]
  obtain ⟨L1, M1, e1, ⟨a, rfl⟩, hM⟩ := for_nx (E := FE G k) (p := .v 2) (it := .slot 0) (L := [some (.lst (ls.map dT)), some .non, none]) (M := M) (M1 := M) (xs := ls.map dT) (d := .lst (ls.map dT))
    (body := [.ite (.disj [.cmp .is (.slot 1) (.lit .non), .cmp .lt (.bf .sum false [.bf .list false [.slot 2]]) (.bf .sum false [.bf .list false [.slot 1]])]) [.asg (.pat (.v 1)) (.slot 2)] []]) (by simp) rfl
    (fun i L1 M1 => (∃ a, L1 = [some (.lst (ls.map dT)), some (oD (smallF (ls.take i))), a]) ∧ M1 = M ∧ ∀ g, smallF (ls.take i) = some g → g.length ≤ 100) ⟨⟨_, rfl⟩, rfl, nofun⟩ (fun i x L1 M1 hx hI => by
      obtain ⟨⟨a, rfl⟩, hM, hg100⟩ := hI
      rw [hM]
      rw [List.getElem?_map] at hx
      obtain ⟨t, ht, rfl⟩ := Option.map_eq_some_iff.mp hx
      have htl := hw t (List.mem_of_getElem? ht)
      have hs := small_step ht
      refine ⟨_, rfl, [some (.lst (ls.map dT)), some (oD (smallF (ls.take (i + 1)))), some (dT t)], M, .inl ?_, rfl, ⟨_, rfl⟩, rfl, ?_⟩
      · rw [hs]
        cases hg : smallF (ls.take i) with
        | none => simp [eb_cons, oD, cmpE, cmpop]
        | some g =>
          have s1 := sm [some (.lst (ls.map dT)), some (dT g), some (dT t)] M 1 g rfl (hg100 g hg)
          have s2 := sm [some (.lst (ls.map dT)), some (dT g), some (dT t)] M 2 t rfl htl
          have nn : decide (dT g = D.non) = false := decide_eq_false (by nofun)
          have c1 : evE (FE G k) (.cmp .is (.slot 1) (.lit .non)) [some (.lst (ls.map dT)), some (dT g), some (dT t)] M = .ok (.bl false) M := by
            rw [ev_cmp]
            simp only [ev_slotS, ev_slot0, ev_lit, Res.bind_ok]
            show Res.ok (D.bl (decide (dT g = D.non))) M = _
            rw [nn]
          have hbl : evE (FE G k) (.disj [.cmp .is (.slot 1) (.lit .non), .cmp .lt (.bf .sum false [.bf .list false [.slot 2]]) (.bf .sum false [.bf .list false [.slot 1]])]) [some (.lst (ls.map dT)), some (dT g), some (dT t)] M = .ok (.bl (decide (t.sum < g.sum))) M := by
            rw [ev_disj, evDisj_cons, c1]
            simp only [Res.bind_ok, truth_b, evDisj1, ev_cmp, s1, s2, cmpE, cmpop, view_i]
          show evB (FE G k) _ [some (.lst (ls.map dT)), some (dT g), some (dT t)] M = _
          rw [eb_cons, es_ite, hbl]
          by_cases hb : t.sum < g.sum
          · simp [hb, oD, eb_cons]
          · simp [hb, oD]
      · intro g hg
        rw [hs] at hg
        cases hq : smallF (ls.take i) with
        | none => rw [hq] at hg; cases hg; exact htl
        | some g' =>
          rw [hq] at hg
          by_cases hb : t.sum < g'.sum
          · simp only [hb, if_true] at hg; cases hg; exact htl
          · simp only [hb, if_false] at hg; cases hg; exact hg100 _ hq)
  rw [List.length_map, List.take_length] at e1
  rw [hM.1] at e1
  rw [callN_fn hf rfl]
  simp [Fh_smallest, h_smallest, eb_cons, e1]
  exact trunc_self (by cases smallF ls <;> simp [oD])
end
end Mi
end

section
set_option autoImplicit false
set_option linter.all false
set_option Elab.async false
set_option maxRecDepth 100000
/-! H26d: an up-set is shown, by the law. -/
namespace Mi
open Lc PySem PySem.PyData K26
/-! ### texts -/
theorem strOk_of (s : String) : strOk (Str.ofString s) = true := by
  rw [Str.ofString_eq_toList]
  unfold strOk
  simp only [List.all_toArray, List.all_map, List.all_eq_true, Function.comp_def, decide_eq_true_eq]
  intro c _
  have := c.valid
  rcases this with h | h
  · exact Nat.lt_trans h (by decide)
  · exact h.2
theorem strOk_app {a b : Str} (h1 : strOk a = true) (h2 : strOk b = true) : strOk (a ++ b) = true := by
  unfold strOk at *
  rw [show (a ++ b).cps = a.cps ++ b.cps from rfl, Array.all_append, h1, h2]
  rfl
theorem strOk_join {a : Str} (h1 : strOk a = true) : ∀ {ys : List Str}, (∀ y ∈ ys, strOk y = true) → strOk (Str.join a ys) = true
  | [], _ => by
    show strOk Str.empty = true
    decide +kernel
  | [y], h => h y (.head _)
  | y :: z :: ys, h => by
    show strOk (y ++ a ++ Str.join a (z :: ys)) = true
    exact strOk_app (strOk_app (h y (.head _)) h1) (strOk_join h1 fun u hu => h u (.tail _ hu))
theorem strOk_shT (t : List Int) : strOk (shT t) = true := by
  rw [shT_eq]
  unfold tupleText
  refine strOk_app (strOk_app (strOk_of _) (strOk_join (strOk_of _) fun y hy => ?_)) (strOk_of _)
  obtain ⟨i, _, rfl⟩ := List.mem_map.mp hy
  exact strOk_of _
theorem strOk_text (ls : List (List Int)) : strOk (textT ls) = true := by
  unfold textT
  split
  · exact strOk_of _
  · refine strOk_join (strOk_of _) fun y hy => ?_
    obtain ⟨t, _, rfl⟩ := List.mem_map.mp hy
    exact strOk_shT t
theorem strOk_count (n : Int) (w : String) : strOk (countT n w) = true := by
  unfold countT
  split
  · exact strOk_app (strOk_app (strOk_of _) (strOk_of _)) (strOk_of _)
  · exact strOk_app (strOk_app (strOk_app (strOk_of _) (strOk_of _)) (strOk_of _)) (strOk_of _)
theorem pure_s {n : Nat} {s : Str} (h : strOk s = true) : D.pure n (.str s) = true := by cases n <;> exact h
section
variable {G : Prg} {k : Nat} {M : Store} {E : Fe}
theorem ne_same {x y : D} (hx : (view M x).pure flatN = true) (hy : (view M y).pure flatN = true) (hp : peq (view M x) (view M y) = true) : cmpop .ne x y M = .ok (.bl false) M := by
  simp only [cmpop, hx, hy, hp, Bool.and_self, if_true, Bool.not_true]
theorem eq_same {x y : D} (hx : (view M x).pure flatN = true) (hy : (view M y).pure flatN = true) (hp : peq (view M x) (view M y) = true) : cmpop .eq x y M = .ok (.bl true) M := by
  simp only [cmpop, hx, hy, hp, Bool.and_self, if_true]
theorem pure_dTs (ls : List (List Int)) : D.pure flatN (.lst (ls.map dT)) = true := by
  show D.pureL 39 _ = true
  exact pureL_map (fun a => pure_dT 38 a) ls
theorem peq_dTs (a b : List (List Int)) : peq (.lst (a.map dT)) (.lst (b.map dT)) = decide (a = b) := by
  rw [peq_lst]
  exact peqL_map peq_dT a b
theorem pure_oD (o : Option (List Int)) : D.pure flatN (oD o) = true := by
  cases o with
  | none => rfl
  | some t => exact pure_dT 39 t
theorem peq_oD (o : Option (List Int)) : peq (oD o) (oD o) = true := by
  cases o with
  | none => simp [oD]
  | some t => rw [oD, peq_dT]; simp
/-- o.corners(), let go -/
theorem ev_corners (h : Ups G) {i : Nat} {L : Lc.Loc} {w : Int} {ls : List (List Int)} (hL : L[i]? = some (some (upD w ls))) (hl : ls.length ≤ line) : evE (FE G (k + 1)) (.frz (.meth "corners" (.slot i) [] [] [.inl 0])) L M = .ok (.lst (ls.map dT)) (M ++ [.dead]) := by
  rw [ev_frz, ev_meth, ev_slot hL, Res.bind_ok, meth_corners h]
  simp only [evEs_none, Res.bind_ok, List.append_nil, argsOf_l, argsOf_nil, List.getElem?_cons_zero]
  rw [corners_up h hl, Res.bind_ok]
  simp only [freeze, get_end, set_end]
theorem ev_small (h : Ups G) {i : Nat} {L : Lc.Loc} {w : Int} {ls : List (List Int)} (hL : L[i]? = some (some (upD w ls))) : evE (FE G (k + 1)) (.meth "smallest" (.slot i) [] [] [.inl 0]) L M = .ok (oD (smallF ls)) M := by
  rw [ev_meth, ev_slot hL, Res.bind_ok, meth_smallest h]
  simp only [evEs_none, Res.bind_ok, List.append_nil, argsOf_l, argsOf_nil, List.getElem?_cons_zero]
  exact smallest_up h
def endT (n : Int) : Str := if n = 1 then " corner)" else " corners)"
theorem repr_text (n : Int) : (Str.ofString "UpSet(" ++ countT n (Str.ofString "corner") ++ Str.ofString ")" : Str) = Str.ofString "UpSet(" ++ strI n ++ endT n := by
  unfold countT endT
  by_cases h : n = 1
  · rw [if_pos h, if_pos h]
    simp only [app_assoc]
    rfl
  · rw [if_neg h, if_neg h]
    simp only [app_assoc]
    rfl
theorem ite_no {c : CE} {a b : List CS} {L : Lc.Loc} {M1 : Store} (h : evE E c L M = .ok (.bl false) M1) : evS E (.ite c a b) L M = evB E b L M1 := by
  rw [es_ite, h, toS_ok, truth_b]
theorem disj2 {a b : CE} {L : Lc.Loc} {M1 M2 : Store} (ha : evE E a L M = .ok (.bl false) M1) (hb : evE E b L M1 = .ok (.bl false) M2) : evE E (.disj [a, b]) L M = .ok (.bl false) M2 := by
  rw [ev_disj, evDisj_cons, ha, Res.bind_ok, truth_b]
  simp only
  rw [evDisj1, hb]
theorem disj3 {a b c : CE} {L : Lc.Loc} {M1 M2 M3 : Store} (ha : evE E a L M = .ok (.bl false) M1) (hb : evE E b L M1 = .ok (.bl false) M2) (hc : evE E c L M2 = .ok (.bl false) M3) : evE E (.disj [a, b, c]) L M = .ok (.bl false) M3 := by
  rw [ev_disj, evDisj_cons, ha, Res.bind_ok, truth_b]
  simp only
  rw [evDisj_cons, hb, Res.bind_ok, truth_b]
  simp only
  rw [evDisj1, hc]
theorem cmp_of {op : COp} {a b : CE} {L : Lc.Loc} {M1 M2 : Store} {x y : D} {r : Res D} (ha : evE E a L M = .ok x M1) (hb : evE E b L M1 = .ok y M2) (hr : cmpE E op x y M2 = r) : evE E (.cmp op a b) L M = r := by
  rw [ev_cmp, ha, Res.bind_ok, hb, Res.bind_ok, hr]
theorem shown (h : H26 G) (hs : G.fn 1145 = some Fh_smallest) (hf : G.fn 1146 = some Fh_is_shown) {w : Int} {A : List (List Int)} (hl : A.length ≤ 1000) (hw : ∀ t ∈ A, t.length ≤ 3) (hb : ∀ t ∈ A, ∀ x ∈ t, x.natAbs < 10 ^ 30) : callN G (k + 4) 1146 [upD w A, .lst (A.map dT)] M = .ok (.bl true) M := by
  have l0 : line = 16777216 := rfl
  have hll : A.length ≤ line := by omega
  have hw100 : ∀ t ∈ A, t.length ≤ 100 := fun t ht => Nat.le_trans (hw t ht) (by decide)
  generalize hn : (A.length : Int) = n
  have lenU : ∀ M, bfD (FE G (k + 3)) .len false [upD w A] M = .ok (.int n) M := fun M => by rw [← hn]; exact lenD_up h.u hl
  have lenA : ∀ M, bfD (FE G (k + 3)) .len false [.lst (A.map dT)] M = .ok (.int n) M := fun M => by
    rw [← hn]
    show Res.ok (D.int ((A.map dT).length : Nat)) M = _
    rw [List.length_map]
  have boolU : ∀ M, bfD (FE G (k + 3)) .bool false [upD w A] M = .ok (.bl (n != 0)) M := fun M => by rw [← hn]; exact boolD_up h.u hl
  have reprU : ∀ M, bfD (FE G (k + 3)) .repr false [upD w A] M = .ok (.str (Str.ofString "UpSet(" ++ strI n ++ endT n)) M := fun M => by
    rw [← hn, ← repr_text]
    exact reprD_up h.u hl
  have nb : n.natAbs < 10 ^ 30 := by
    have : (10 : Nat) ^ 30 = 1000000000000000000000000000000 := by decide
    omega
  have ev1 : ∀ (f : BF) (L : Lc.Loc) (M : Store) (i : Nat) (x : D) (r : Res D), L[i]? = some (some x) → bfD (FE G (k + 3)) f false [x] M = r → evE (FE G (k + 3)) (.bf f false [.slot i]) L M = r := fun f L M i x r hL hr => by
    rw [ev_bf, evEs_slot, ev_slot hL]
    exact hr
  have e0 : (n != 0) = !decide (A = []) := by
    rw [← hn]
    cases A with
    | nil => rfl
    | cons a A =>
      rw [Bool.eq_iff_iff]
      simp
      omega
  -- the ending
  have s1 : evS (FE G (k + 3)) (.asg (.pat (.v 2)) (.ite (.cmp .eq (.bf .len false [.slot 1]) (.lit (.int 1))) (.lit (.str " corner)")) (.lit (.str " corners)")))) [some (upD w A), some (.lst (A.map dT)), none, none] M = .nx [some (upD w A), some (.lst (A.map dT)), some (.str (endT n)), none] M := by
    have hc : evE (FE G (k + 3)) (.cmp .eq (.bf .len false [.slot 1]) (.lit (.int 1))) [some (upD w A), some (.lst (A.map dT)), none, none] M = .ok (.bl (decide (n = 1))) M := by
      refine cmp_of (ev1 .len _ _ 1 _ _ rfl (lenA M)) ev_lit ?_
      simp [cmpE, cmpop]
    rw [es_asg, ev_ite, hc, Res.bind_ok, truth_b]
    by_cases h1 : n = 1
    · simp [h1, endT]
    · simp [h1, endT]
  generalize hE : endT n = e at *
  -- the first test
  have t1 : evE (FE G (k + 3)) (.disj [.cmp .ne (.frz (.meth "corners" (.slot 0) [] [] [.inl 0])) (.slot 1), .cmp .ne (.bf .len false [.slot 0]) (.bf .len false [.slot 1]), .cmp .ne (.bf .bool false [.slot 0]) (.cmp .ne (.slot 1) (.lst false []))]) [some (upD w A), some (.lst (A.map dT)), some (.str e), none] M = .ok (.bl false) (M ++ [.dead]) := by
    refine disj3 (M1 := M ++ [.dead]) (M2 := M ++ [.dead]) (cmp_of (ev_corners h.u (i := 0) rfl hll) (ev_slot rfl) ?_) (cmp_of (ev1 .len _ _ 0 _ _ rfl (lenU _)) (ev1 .len _ _ 1 _ _ rfl (lenA _)) ?_) (cmp_of (ev1 .bool _ _ 0 _ _ rfl (boolU _)) (cmp_of (r := .ok (.bl (!decide (A = []))) (M ++ [.dead])) (ev_slot rfl) (by rw [ev_lst, evEs_none, Res.bind_ok, newL_0]) ?_) ?_)
    · exact ne_same (pure_dTs A) (pure_dTs A) (by rw [view_l, peq_dTs]; simp)
    · show cmpop .ne (.int n) (.int n) (M ++ [.dead]) = .ok (.bl false) (M ++ [.dead])
      exact ne_same (by rw [view_i]; exact pure_int _ _) (by rw [view_i]; exact pure_int _ _) (by rw [view_i]; simp)
    · show (if D.pure flatN (.lst (A.map dT)) && D.pure flatN (.lst []) then Res.ok (D.bl (!peq (.lst (A.map dT)) (.lst []))) (M ++ [AO.dead]) else .bad) = _
      rw [pure_dTs A, show D.pure flatN (.lst []) = true from rfl, show peq (.lst (A.map dT)) (.lst []) = decide (A = []) from peq_dTs A []]
      rfl
    · rw [e0]
      show cmpop .ne (.bl (!decide (A = []))) (.bl (!decide (A = []))) (M ++ [.dead]) = .ok (.bl false) (M ++ [.dead])
      exact ne_same (by rw [view_b]; exact pure_bl _ _) (by rw [view_b]; exact pure_bl _ _) (by rw [view_b]; simp)
  have t2 : evE (FE G (k + 3)) (.disj [.cmp .ne (.bf .repr false [.slot 0]) (.bin .add false (.bin .add false (.lit (.str "UpSet(")) (.bf .str false [.bf .len false [.slot 1]])) (.slot 2)), .cmp .ne (.meth "smallest" (.slot 0) [] [] [.inl 0]) (.call 1145 [.slot 1] [] [.inl 0])]) [some (upD w A), some (.lst (A.map dT)), some (.str e), none] (M ++ [.dead]) = .ok (.bl false) (M ++ [.dead]) := by
    have le : e.length ≤ 20 := by
      rw [← hE]
      unfold endT
      split <;> decide
    have lu : (Str.ofString "UpSet(").length = 6 := rfl
    have ln := strI_len (k := 30) (by decide) nb
    have oke : strOk e = true := by
      rw [← hE]
      unfold endT
      split <;> exact strOk_of _
    refine disj2 (M1 := M ++ [.dead]) (M2 := M ++ [.dead]) (cmp_of (y := .str (Str.ofString "UpSet(" ++ strI n ++ e)) (M2 := M ++ [.dead]) (ev1 .repr _ _ 0 _ _ rfl (reprU _)) ?_ ?_) (cmp_of (ev_small h.u (k := k + 2) (i := 0) (L := [some (upD w A), some (.lst (A.map dT)), some (.str e), Option.none]) (w := w) (ls := A) rfl) (y := oD (smallF A)) (M2 := M ++ [.dead]) ?_ ?_)
    · have hstr : evE (FE G (k + 3)) (.bf .str false [.bf .len false [.slot 1]]) [some (upD w A), some (.lst (A.map dT)), some (.str e), none] (M ++ [.dead]) = .ok (.str (strI n)) (M ++ [.dead]) := by
        rw [ev_bf, evEs_bf, ev1 .len _ _ 1 _ _ rfl (lenA _), Res.bind_ok, evEs_none, Res.bind_ok, Res.bind_ok]
        show (if n.natAbs.log2 < 1920 then Res.ok (D.str (strI n)) (M ++ [AO.dead]) else .bad) = _
        rw [if_pos (log_small nb)]
      rw [ev_bin, ev_bin, ev_lit, Res.bind_ok, hstr, Res.bind_ok]
      have a1 : binE (FE G (k + 3)) .add false (.str (Str.ofString "UpSet(")) (.str (strI n)) (M ++ [.dead]) = .ok (.str (Str.ofString "UpSet(" ++ strI n)) (M ++ [.dead]) := by
        show (if (Str.ofString "UpSet(").length + (strI n).length ≤ line then _ else _) = _
        rw [if_pos (by omega)]
      rw [a1, Res.bind_ok, ev_slot (show [some (upD w A), some (D.lst (A.map dT)), some (D.str e), none][2]? = some (some (.str e)) from rfl), Res.bind_ok]
      show (if (Str.ofString "UpSet(" ++ strI n).length + e.length ≤ line then _ else _) = _
      rw [if_pos (by rw [len_app]; omega)]
    · have : D.pure flatN (.str (Str.ofString "UpSet(" ++ strI n ++ e)) = true := pure_s (strOk_app (strOk_app (strOk_of _) (strOk_of _)) oke)
      exact ne_same this this (by simp)
    · rw [ev_call, evEs_slot, ev_slot (show [some (upD w A), some (D.lst (A.map dT)), some (D.str e), none][1]? = some (some (.lst (A.map dT))) from rfl)]
      simp only [Res.bind_ok, evEs_none, List.append_nil, argsOf_l, argsOf_nil, List.getElem?_cons_zero]
      exact smallest (k := k + 2) hs hw100
    · show cmpop .ne (oD (smallF A)) (oD (smallF A)) _ = _
      have hv : ∀ M, view M (oD (smallF A)) = oD (smallF A) := fun M => by cases smallF A <;> rfl
      exact ne_same (by rw [hv]; exact pure_oD _) (by rw [hv]; exact pure_oD _) (by rw [hv]; exact peq_oD _)
  have t3 : evE (FE G (k + 3)) (.cmp .eq (.bf .str false [.slot 0]) (.ite (.cmp .eq (.slot 1) (.lst false [])) (.lit (.str "empty")) (.bm .join false (.lit (.str " ")) [h_is_shown_c0]))) [some (upD w A), some (.lst (A.map dT)), some (.str e), none] (M ++ [.dead]) = .ok (.bl true) (M ++ [.dead]) := by
    refine cmp_of (y := .str (textT A)) (M2 := M ++ [.dead]) (ev1 .str _ _ 0 _ _ rfl (strD_up h.u hl hw100 hb)) ?_ ?_
    · have hc : evE (FE G (k + 3)) (.cmp .eq (.slot 1) (.lst false [])) [some (upD w A), some (.lst (A.map dT)), some (.str e), none] (M ++ [.dead]) = .ok (.bl (decide (A = []))) (M ++ [.dead]) := by
        refine cmp_of (ev_slot rfl) (by rw [ev_lst, evEs_none, Res.bind_ok, newL_0]) ?_
        show (if D.pure flatN (.lst (A.map dT)) && D.pure flatN (.lst []) then Res.ok (D.bl (peq (.lst (A.map dT)) (.lst []))) (M ++ [AO.dead]) else .bad) = _
        rw [pure_dTs A, show D.pure flatN (.lst []) = true from rfl, show peq (.lst (A.map dT)) (.lst []) = decide (A = []) from peq_dTs A []]
        rfl
      rw [ev_ite, hc, Res.bind_ok, truth_b]
      by_cases hA : A = []
      · simp [hA, textT]
      · have hcm : evE (FE G (k + 3)) h_is_shown_c0 [some (upD w A), some (.lst (A.map dT)), some (.str e), none] (M ++ [.dead]) = .ok (.lst ((A.map shT).map .str)) (M ++ [.dead]) := by
          have h := (comp_map (E := FE G (k + 3)) (p := .v 3) (vars := [3]) (e := .bf .str false [.slot 3]) (L := [some (upD w A), some (.lst (A.map dT)), some (.str e), none]) (M := M ++ [.dead]) (M1 := M ++ [.dead]) (it := .slot 1) (d := .lst (A.map dT)) (xs := A.map dT)
            (fun x => .str (PyData.shown x.pd)) (ev_slot rfl) rfl (by simpa using hll) (fun x hx acc => by
            obtain ⟨p, hp, rfl⟩ := List.mem_map.mp hx
            have := showOk_dT (hb p hp) (by have := hw p hp; omega)
            refine ⟨_, rfl, ?_⟩
            simp [bfD, bfun, this]) (fun x hx => rfl)).1
          rw [h]
          simp [Function.comp_def, shT]
        have hs : (((A.map shT)).map (·.length)).sum ≤ (((A.map shT)).map (·.length)).length * 4000 := sum_le fun x hx => by
          obtain ⟨y, hy, rfl⟩ := List.mem_map.mp hx
          obtain ⟨z, hz, rfl⟩ := List.mem_map.mp hy
          have := shT_len (hb z hz)
          have := hw z hz
          omega
        have q1 : (Str.ofString " ").length = 1 := rfl
        have hs2 : ((A.map shT).map (·.length)).sum + (A.map shT).length * (Str.ofString " ").length ≤ line := by
          rw [q1]
          simp only [List.length_map] at hs ⊢
          omega
        rw [decide_eq_false hA]
        simp only
        rw [ev_bm, ev_lit, Res.bind_ok]
        show (if true = true then _ else _) = _
        rw [if_pos rfl, evEs_comp, hcm, Res.bind_ok, evEs_none, Res.bind_ok, Res.bind_ok]
        show (match (strsD ((A.map shT).map D.str)) with | some ys => (if (ys.map fun y : Str => y.length).sum + ys.length * (Str.ofString " ").length ≤ line then Res.ok (D.str (Str.join (Str.ofString " ") ys)) (M ++ [AO.dead]) else .bad) | Option.none => .bad) = _
        rw [strs_map]
        simp only
        rw [if_pos hs2]
        simp [textT, hA]
    · exact eq_same (pure_s (strOk_text A)) (pure_s (strOk_text A)) (by simp)
  rw [callN_fn hf rfl]
  show outOf M (evB (FE G (k + 3)) h_is_shown [some (upD w A), some (.lst (A.map dT)), none, none] M) = _
  unfold h_is_shown
  rw [eb_cons, s1, bind_nx, eb_cons, ite_no t1, eb_nil, bind_nx, eb_cons, ite_no t2, eb_nil, bind_nx, eb_cons, es_ret, t3, toS_ok, bind_rt, outOf_rt, trunc_bla]
end
end Mi
end

section
set_option autoImplicit false
set_option linter.all false
set_option Elab.async false
set_option maxRecDepth 100000
/-! H26e: the law's turn. -/
namespace Mi
open Lc PySem K26
section
variable {G : Prg} {k : Nat} {M M1 : Store} {L : Lc.Loc}
theorem ev_callG {f : Nat} {es : List CE} {vs ws : List D} {as : List (Nat ⊕ D)} (h : evEs (FE G k) es L M = .ok vs M1) (ha : argsOf (vs ++ []) as = some ws) : evE (FE G k) (.call f es [] as) L M = callN G k f ws M1 := by
  rw [ev_call, h, Res.bind_ok, evEs_none, Res.bind_ok, ha]
theorem get2 (M : Store) (o x y : AO) (B : Store) : (M ++ x :: y :: B)[(M ++ [o]).length]? = some y := by
  rw [List.length_append, List.length_singleton, List.getElem?_append_right (by omega)]
  simp
theorem set2 (M : Store) (o x y z : AO) (B : Store) : (M ++ x :: y :: B).set (M ++ [o]).length z = M ++ x :: z :: B := by
  rw [List.length_append, List.length_singleton, List.set_append, if_neg (by omega)]
  simp
/-- 1 + a draw below 3, one of three -/
theorem turn2 (hd : G.fn 1001 = some Fh_draw) {a0 a1 a3 a4 a5 a6 a7 a8 a9 a10 a11 a12 : Option D} {o : AO} (ho : Src 0 o) :
    ∃ (w : Nat) (most : Int) (o' : AO), evS (FE G (k + 1)) (.asg (.pat (.t [.v 3, .v 4])) (.tup [.bin .add false (.lit (.int 1)) (.call 1001 [.slot 2, .lit (.int 3)] [] [.inl 0, .inl 1]), .sub (.lst false [.lit (.int 3), .lit (.int 5), .bin .pow false (.lit (.int 10)) (.lit (.int 12))]) (.call 1001 [.slot 2, .lit (.int 3)] [] [.inl 0, .inl 1])]))
      [a0, a1, some (.loc M.length), a3, a4, a5, a6, a7, a8, a9, a10, a11, a12] (M ++ [o]) = .nx [a0, a1, some (.loc M.length), some (.int w), some (.int most), a5, a6, a7, a8, a9, a10, a11, a12] (M ++ [o']) ∧ Src 2 o' ∧ 1 ≤ w ∧ w ≤ 3 ∧ 0 < most ∧ most ≤ 10 ^ 12 := by
  obtain ⟨d1, o1, e1, s1, h1, h2⟩ := ev_draw (k := k) (i := 2) (L := [a0, a1, some (.loc M.length), a3, a4, a5, a6, a7, a8, a9, a10, a11, a12]) (em := .lit (.int 3)) (m := 3) hd rfl rfl ev_lit (get_end M o []) ho (by decide) (by decide) (by decide)
  rw [set_end] at e1
  obtain ⟨d2, o2, e2, s2, h3, h4⟩ := ev_draw (k := k) (i := 2) (L := [a0, a1, some (.loc M.length), a3, a4, a5, a6, a7, a8, a9, a10, a11, a12]) (em := .lit (.int 3)) (m := 3) hd rfl rfl ev_lit (get_end M o1 []) s1 (by decide) (by decide) (by decide)
  rw [set_end] at e2
  have pw : evE (FE G (k + 1)) (.bin .pow false (.lit (.int 10)) (.lit (.int 12))) [a0, a1, some (.loc M.length), a3, a4, a5, a6, a7, a8, a9, a10, a11, a12] (M ++ [o1]) = .ok (.int (10 ^ 12)) (M ++ [o1]) := by
    have : powOk 10 12 = true := by decide
    rw [ev_bin, ev_lit, Res.bind_ok, ev_lit, Res.bind_ok]
    show (if powOk 10 12 = true then Res.ok (D.int (10 ^ (12 : Int).toNat)) (M ++ [o1]) else Res.bad) = _
    rw [if_pos this]
    rfl
  obtain ⟨most, hm, hm0, hm1⟩ : ∃ most : Int, L2.atI [D.int 3, .int 5, .int (10 ^ 12)] d2 = some (.int most) ∧ 0 < most ∧ most ≤ 10 ^ 12 := by
    have : d2 = 0 ∨ d2 = 1 ∨ d2 = 2 := by omega
    rcases this with rfl | rfl | rfl
    · exact ⟨3, rfl, by decide, by decide⟩
    · exact ⟨5, rfl, by decide, by decide⟩
    · exact ⟨10 ^ 12, rfl, by decide, by decide⟩
  refine ⟨(1 + d1).toNat, most, o2, ?_, s2, by omega, by omega, hm0, hm1⟩
  have hw : (((1 + d1).toNat : Nat) : Int) = 1 + d1 := by omega
  rw [hw, es_asg, ev_tup, evEs_bin, ev_bin, ev_lit, Res.bind_ok, e1, Res.bind_ok]
  rw [show binE (FE G (k + 1)) .add false (.int 1) (.int d1) (M ++ [o1]) = .ok (.int (1 + d1)) (M ++ [o1]) from rfl, Res.bind_ok, evEs_sub, ev_sub, ev_lst, evEs_lit, ev_lit, Res.bind_ok, evEs_lit, ev_lit, Res.bind_ok, evEs_bin, pw, Res.bind_ok, evEs_none]
  simp only [Res.bind_ok, newL_3, e2, evEs_none]
  rw [show subE (FE G (k + 1)) (.lst [.int 3, .int 5, .int (10 ^ 12)]) (.int d2) (M ++ [o2]) = (match L2.atI [D.int 3, .int 5, .int (10 ^ 12)] d2 with | some v => .ok v (M ++ [o2]) | Option.none => .bad) from rfl, hm]
  simp only [Res.bind_ok, newT_2, toS_ok]
  rfl
/-- UpSet(width, handed or its tuple) -/
theorem turn5 (h : H26 G) {a0 a1 a4 a5 a7 a8 a9 a10 a11 a12 : Option D} {o o3 : AO} {w : Int} {ts : List (List Int)} (ho : Src 42 o) (hl : ts.length ≤ 7) (hw : ∀ t ∈ ts, t.length ≤ 3) :
    ∃ o', evS (FE G (k + 3)) (.asg (.pat (.v 7)) (.mk false 10 [.slot 3, .ite (.cmp .eq (.call 1001 [.slot 2, .lit (.int 2)] [] [.inl 0, .inl 1]) (.lit (.int 0))) (.slot 6) (.bf .tuple false [.slot 6])] [] [.inl 0, .inl 1, .inl 2]))
      [a0, a1, some (.loc M.length), some (.int w), a4, a5, some (.loc (M ++ [o3]).length), a7, a8, a9, a10, a11, a12] (M ++ [o, .lst (ts.map dT)]) = .nx [a0, a1, some (.loc M.length), some (.int w), a4, a5, some (.loc (M ++ [o3]).length), some (upD w (leastOf ts)), a8, a9, a10, a11, a12] (M ++ [o', .lst (ts.map dT)]) ∧ Src 43 o' := by
  have l0 : line = 16777216 := rfl
  generalize hL : [a0, a1, some (D.loc M.length), some (D.int w), a4, a5, some (D.loc (M ++ [o3]).length), a7, a8, a9, a10, a11, a12] = L
  have g2 : L[2]? = some (some (.loc M.length)) := by rw [← hL]; rfl
  have g3 : L[3]? = some (some (.int w)) := by rw [← hL]; rfl
  have g6 : L[6]? = some (some (.loc (M ++ [o3]).length)) := by rw [← hL]; rfl
  obtain ⟨d1, o1, e1, s1, h1, h2⟩ := ev_draw (k := k + 2) (i := 2) (L := L) (em := .lit (.int 2)) (m := 2) h.d g2 rfl ev_lit (get_end M o [.lst (ts.map dT)]) ho (by decide) (by decide) (by decide)
  rw [set_end] at e1
  have hv : ∀ B, view (M ++ [o1, .lst (ts.map dT)] ++ B) (.loc (M ++ [o3]).length) = .lst (ts.map dT) := fun B => view_at (by rw [List.append_assoc]; exact get2 M o3 o1 _ B)
  have hv0 : view (M ++ [o1, .lst (ts.map dT)]) (.loc (M ++ [o3]).length) = .lst (ts.map dT) := by simpa using hv []
  have hsel : ∃ d, evE (FE G (k + 3)) (.ite (.cmp .eq (.call 1001 [.slot 2, .lit (.int 2)] [] [.inl 0, .inl 1]) (.lit (.int 0))) (.slot 6) (.bf .tuple false [.slot 6])) L (M ++ [o, .lst (ts.map dT)]) = .ok d (M ++ [o1, .lst (ts.map dT)]) ∧ ∀ B, view (M ++ [o1, .lst (ts.map dT)] ++ B) d = .lst (ts.map dT) ∨ view (M ++ [o1, .lst (ts.map dT)] ++ B) d = .tup (ts.map dT) := by
    have hc : evE (FE G (k + 3)) (.cmp .eq (.call 1001 [.slot 2, .lit (.int 2)] [] [.inl 0, .inl 1]) (.lit (.int 0))) L (M ++ [o, .lst (ts.map dT)]) = .ok (.bl (decide (d1 = 0))) (M ++ [o1, .lst (ts.map dT)]) := by
      refine cmp_of e1 ev_lit ?_
      show (if D.pure flatN (.int d1) && D.pure flatN (.int 0) then Res.ok (D.bl (peq (.int d1) (.int 0))) (M ++ [o1, .lst (ts.map dT)]) else .bad) = _
      rw [pure_int, pure_int, peq_int]
      rfl
    rw [ev_ite, hc, Res.bind_ok, truth_b]
    by_cases hz : d1 = 0
    · rw [decide_eq_true hz]
      exact ⟨_, ev_slot g6, fun B => .inl (hv B)⟩
    · rw [decide_eq_false hz]
      refine ⟨.tup (ts.map dT), ?_, fun B => .inr rfl⟩
      show evE (FE G (k + 3)) (.bf .tuple false [.slot 6]) L _ = _
      rw [ev_bf, evEs_slot, ev_slot g6, Res.bind_ok, evEs_none, Res.bind_ok, Res.bind_ok]
      show (match Lc.items (M ++ [o1, .lst (ts.map dT)]) (.loc (M ++ [o3]).length) with | some xs => newT xs (M ++ [o1, .lst (ts.map dT)]) | Option.none => .bad) = _
      unfold Lc.items
      rw [hv0]
      exact newT_ok (by simp; omega)
  obtain ⟨d, ed, hd⟩ := hsel
  have hmk := mk_up (k := k) (M := M ++ [o1, .lst (ts.map dT)]) h.u (d := d) (w := w) (ts := ts) (as := [.inl 0, .inl 1, .inl 2]) (vs := [.int w, d]) rfl hd (by omega) (fun t ht => Nat.le_trans (hw t ht) (by decide))
  refine ⟨o1, ?_, s1⟩
  rw [es_asg, ev_mk, evEs_slot, ev_slot g3, Res.bind_ok, evEs_ite, ed]
  simp only [Res.bind_ok, evEs_none, List.append_nil]
  rw [hmk, toS_ok, asg_v, ← hL]
  rfl
end
end Mi
end

section
set_option autoImplicit false
set_option linter.all false
set_option Elab.async false
set_option maxRecDepth 100000
/-! H26f: the law's turn, its later statements. -/
namespace Mi
open Lc PySem K26
abbrev b1 : CS := .asg (.pat (.v 2)) (.call 1139 [.slot 0, .slot 1] [] [.inl 0, .inl 1])
abbrev b2 : CS := .asg (.pat (.t [.v 3, .v 4])) (.tup [.bin .add false (.lit (.int 1)) (.call 1001 [.slot 2, .lit (.int 3)] [] [.inl 0, .inl 1]), .sub (.lst false [.lit (.int 3), .lit (.int 5), .bin .pow false (.lit (.int 10)) (.lit (.int 12))]) (.call 1001 [.slot 2, .lit (.int 3)] [] [.inl 0, .inl 1])])
abbrev cT : CE := .call 1140 [.slot 2, .slot 3, .lit (.int 7), .slot 4] [] [.inl 0, .inl 1, .inl 2, .inl 3]
abbrev b3 : CS := .asg (.pat (.v 5)) cT
abbrev b4 : CS := .asg (.pat (.v 6)) (.bf .list true [.slot 5])
abbrev b5 : CS := .asg (.pat (.v 7)) (.mk false 10 [.slot 3, .ite (.cmp .eq (.call 1001 [.slot 2, .lit (.int 2)] [] [.inl 0, .inl 1]) (.lit (.int 0))) (.slot 6) (.bf .tuple false [.slot 6])] [] [.inl 0, .inl 1, .inl 2])
abbrev b6 : CS := .exp (.bm .clear true (.slot 6) [])
abbrev b7 : CS := .asg (.pat (.v 8)) (.call 1144 [.slot 5] [] [.inl 0])
abbrev cS : CE := .not (.call 1146 [.slot 7, .slot 8] [] [.inl 0, .inl 1])
abbrev b8 : CS := .ite (.disj [.cmp .ne (.prop (.slot 7) "width") (.slot 3), cS]) [.ret (.lit (.bl false))] []
abbrev cZ : CE := .bin .mul false (.tup [.lit (.int 0)]) (.slot 3)
abbrev b9 : CS := .exp (.bm .append true (.meth "corners" (.slot 7) [] [] [.inl 0]) [cZ])
abbrev b10 : CS := .ite cS [.ret (.lit (.bl false))] []
abbrev b11 : CS := .asg (.pat (.v 9)) (.bin .add false (h_law_c1) (.call 1141 [.slot 3, .lit (.int 4)] [] [.inl 0, .inl 1]))
abbrev b12t : CS := .ite (.cmp .ne (.cmp .inn (.slot 11) (.slot 7)) (.call 1143 [.slot 11, .slot 5] [] [.inl 0, .inl 1])) [.ret (.lit (.bl false))] []
abbrev b13 : CS := .asg (.pat (.v 12)) (.cmet 10 "full" [.slot 3] [.inl 0, .inl 1])
abbrev b14 : CS := .ite (.disj [.cmp .ne (.frz (.meth "corners" (.slot 12) [] [] [.inl 0])) (.lst false [cZ]), .cmp .notIn cZ (.slot 12), .cmp .ne (.prop (.slot 12) "width") (.slot 3)]) [.ret (.lit (.bl false))] []
abbrev b12 : CS := .loop (.v 11) (.bin .add false (.bin .add false (.slot 9) (.slot 5)) cT) [b12t]
theorem law_eq : h_law_l3 = .loop (.v 1) (.rng [.bf .max2 false [.lit (.int 1), .bf .min2 false [.lit (.int 6), .bf .len false [.slot 0]]]]) [b1, b2, b3, b4, b5, b6, b7, b8, b9, b10, b11, b12, b13, b14] := rfl
section
variable {G : Prg} {k : Nat} {M M1 : Store} {L : Lc.Loc}
variable {a0 a1 a2 a3 a4 a5 a6 a7 a8 a9 a10 a11 a12 : Option D}
theorem turn1 (h : G.fn 1139 = some ⟨2, 4, srcB 2533⟩) {ns : List Int} {i : Nat} (hi : i ≤ 63) (hl : ns.length ≤ 63) :
    ∃ o, evS (FE G (k + 1)) b1 [some (.lst (ns.map .int)), some (.int i), a2, a3, a4, a5, a6, a7, a8, a9, a10, a11, a12] M = .nx [some (.lst (ns.map .int)), some (.int i), some (.loc M.length), a3, a4, a5, a6, a7, a8, a9, a10, a11, a12] (M ++ [o]) ∧ Src 0 o := by
  obtain ⟨o, e, s⟩ := source (k := k) (M := M) h (by decide) (by decide) hi hl
  refine ⟨o, ?_, s⟩
  rw [es_asg, ev_callG (vs := [.lst (ns.map .int), .int i]) (ws := [.lst (ns.map .int), .int i]) (M1 := M) (by simp) rfl, e, toS_ok, asg_v]
  rfl
theorem ev_drawn (h : H26 G) {n B : Nat} {o : AO} {w most : Int} (hL2 : L[2]? = some (some (.loc n))) (hL3 : L[3]? = some (some (.int w))) (hL4 : L[4]? = some (some (.int most))) (hM : M[n]? = some o) (ho : Src B o) (hB : B + 100 < 2 ^ 100) (h0 : 0 < most) (h1 : most < 2 ^ 200) (w0 : 0 ≤ w) (w1 : w ≤ 3) :
    ∃ (ts : List (List Int)) (o' : AO), evE (FE G (k + 2)) cT L M = .ok (.lst (ts.map dT)) (M.set n o') ∧ Src (B + 40) o' ∧ ts.length ≤ 7 ∧ ∀ t ∈ ts, t.length = w.toNat ∧ ∀ x ∈ t, 0 ≤ x ∧ x < most := by
  obtain ⟨ts, o', e, s, h2, h3⟩ := tuples (k := k) h.d h.t hM ho hB h0 h1 w0 w1 (many := 7) (by decide) (by decide)
  refine ⟨ts, o', ?_, s, h2, h3⟩
  rw [ev_callG (vs := [.loc n, .int w, .int 7, .int most]) (ws := [.loc n, .int w, .int 7, .int most]) (M1 := M) (by rw [evEs_slot, ev_slot hL2, Res.bind_ok, evEs_slot, ev_slot hL3, Res.bind_ok, evEs_lit, ev_lit, Res.bind_ok, evEs_slot, ev_slot hL4, Res.bind_ok, evEs_none]; rfl) rfl]
  exact e
theorem turn4 {ts : List (List Int)} (hl : ts.length ≤ 7) :
    evS (FE G k) b4 [a0, a1, a2, a3, a4, some (.lst (ts.map dT)), a6, a7, a8, a9, a10, a11, a12] M = .nx [a0, a1, a2, a3, a4, some (.lst (ts.map dT)), some (.loc M.length), a7, a8, a9, a10, a11, a12] (M ++ [.lst (ts.map dT)]) := by
  have l0 : line = 16777216 := rfl
  rw [es_asg, ev_bf, evEs_slot, ev_slot (show [a0, a1, a2, a3, a4, some (.lst (ts.map dT)), a6, a7, a8, a9, a10, a11, a12][5]? = some (some (.lst (ts.map dT))) from rfl), Res.bind_ok, evEs_none, Res.bind_ok, Res.bind_ok]
  rw [show bfD (FE G k) .list true [.lst (ts.map dT)] M = newL true (ts.map dT) M from rfl, newL_own (by simp; omega), toS_ok, asg_v]
  rfl
theorem turn6 {ts : List (List Int)} {n : Nat} (hM : M[n]? = some (.lst (ts.map dT))) :
    evS (FE G k) b6 [a0, a1, a2, a3, a4, a5, some (.loc n), a7, a8, a9, a10, a11, a12] M = .nx [a0, a1, a2, a3, a4, a5, some (.loc n), a7, a8, a9, a10, a11, a12] (M.set n (.lst [])) := by
  rw [es_exp, ev_bm, ev_slot (show [a0, a1, a2, a3, a4, a5, some (.loc n), a7, a8, a9, a10, a11, a12][6]? = some (some (.loc n)) from rfl), Res.bind_ok, view_at hM]
  show (Res.toS (if true = true then _ else _) _ _) = _
  rw [if_pos rfl, evEs_none, Res.bind_ok]
  show (Res.toS (match M[n]? with | some (.lst xs) => .ok .non (M.set n (.lst [])) | _ => .bad) _ _) = _
  rw [hM]
  rfl
theorem turn7 (h : H26 G) (hf : G.fn 1144 = some Fh_least) {ts : List (List Int)} {w : Nat} (w3 : w ≤ 3) (hl : ts.length ≤ 7) (hw : ∀ t ∈ ts, t.length = w) :
    evS (FE G (k + 2)) b7 [a0, a1, a2, a3, a4, some (.lst (ts.map dT)), a6, a7, a8, a9, a10, a11, a12] M = .nx [a0, a1, a2, a3, a4, some (.lst (ts.map dT)), a6, a7, some (.lst ((leastOf ts).map dT)), a9, a10, a11, a12] M := by
  rw [es_asg, ev_callG (vs := [.lst (ts.map dT)]) (ws := [.lst (ts.map dT)]) (M1 := M) (by simp) rfl, least h hf w3 (by omega) hw, leastL_eq hw, toS_ok, asg_v]
  rfl
theorem ev_shown (h : H26 G) (hs : G.fn 1145 = some Fh_smallest) (hf : G.fn 1146 = some Fh_is_shown) {w : Int} {A : List (List Int)} (hL7 : L[7]? = some (some (upD w A))) (hL8 : L[8]? = some (some (.lst (A.map dT)))) (hl : A.length ≤ 1000) (hw : ∀ t ∈ A, t.length ≤ 3) (hb : ∀ t ∈ A, ∀ x ∈ t, x.natAbs < 10 ^ 30) :
    evE (FE G (k + 4)) cS L M = .ok (.bl false) M := by
  rw [ev_not, ev_callG (vs := [upD w A, .lst (A.map dT)]) (ws := [upD w A, .lst (A.map dT)]) (M1 := M) (by rw [evEs_slot, ev_slot hL7, Res.bind_ok, evEs_slot, ev_slot hL8, Res.bind_ok, evEs_none]; rfl) rfl, shown h hs hf hl hw hb]
  rfl
theorem ev_width (h : Ups G) {i : Nat} {w : Int} {A : List (List Int)} (hL : L[i]? = some (some (upD w A))) (h3 : L[3]? = some (some (.int w))) : evE (FE G (k + 1)) (.cmp .ne (.prop (.slot i) "width") (.slot 3)) L M = .ok (.bl false) M := by
  refine cmp_of (x := .int w) (y := .int w) (M2 := M) ?_ (ev_slot h3) ?_
  · rw [ev_prop, ev_slot hL, Res.bind_ok]
    show (match G.prop 10 "width" with | some g => noexc (callN G (k + 1) g [upD w A] M) | Option.none => .bad) = _
    rw [h.pw]
    simp only [width_up h, noexc1]
  · show cmpop .ne (.int w) (.int w) M = .ok (.bl false) M
    exact ne_same (by rw [view_i]; exact pure_int _ _) (by rw [view_i]; exact pure_int _ _) (by rw [view_i]; simp)
theorem ev_zeros {w : Int} (h3 : L[3]? = some (some (.int w))) (h0 : 0 ≤ w) (h1 : w ≤ 1000) : evE (FE G k) cZ L M = .ok (dT (List.replicate w.toNat 0)) M := by
  rw [ev_bin, ev_tup, evEs_lit, ev_lit, Res.bind_ok, evEs_none, Res.bind_ok, Res.bind_ok, newT_1, Res.bind_ok, ev_slot h3, Res.bind_ok]
  exact mul_zeros h0 h1
theorem turn9 (h : Ups G) {w : Int} {A : List (List Int)} (hL : L[7]? = some (some (upD w A))) (h3 : L[3]? = some (some (.int w))) (h0 : 0 ≤ w) (h1 : w ≤ 1000) (hl : A.length ≤ 1000) :
    ∃ o, evS (FE G (k + 1)) b9 L M = .nx L (M ++ [o]) := by
  have l0 : line = 16777216 := rfl
  refine ⟨.lst (A.map dT ++ [dT (List.replicate w.toNat 0)]), ?_⟩
  rw [es_exp, ev_bm, ev_meth, ev_slot hL, Res.bind_ok, meth_corners h]
  simp only [evEs_none, Res.bind_ok, List.append_nil, argsOf_l, argsOf_nil, List.getElem?_cons_zero]
  rw [corners_up h (by omega), Res.bind_ok, view_end]
  show (Res.toS (if true = true then _ else _) _ _) = _
  rw [if_pos rfl, evEs_bin, ev_zeros h3 h0 h1, Res.bind_ok, evEs_none, Res.bind_ok, Res.bind_ok]
  show (Res.toS (match (M ++ [AO.lst (A.map dT)])[M.length]? with | some (.lst xs) => (if xs.length < line then Res.ok .non ((M ++ [AO.lst (A.map dT)]).set M.length (.lst (xs ++ [dT (List.replicate w.toNat 0)]))) else .bad) | _ => .bad) _ _) = _
  rw [get_end]
  simp only [List.length_map]
  rw [if_pos (by omega), set_end, toS_ok]
end
end Mi
end

section
set_option autoImplicit false
set_option linter.all false
set_option Elab.async false
set_option maxRecDepth 100000
/-! H26g: the law's turn, its last statements. -/
namespace Mi
open Lc PySem K26
section
variable {G : Prg} {k : Nat} {M M1 : Store} {L : Lc.Loc}
variable {a0 a1 a2 a3 a4 a5 a6 a7 a8 a9 a10 a11 a12 : Option D}
def lowT (t : List Int) : List Int := t.map fun v => max 0 (v - 1)
theorem low_c0 {t : List Int} (hl : t.length ≤ 3) (hL : L[11]? = some (some (dT t))) (hlen : L.length = 13) : evE (FE G k) h_law_c0 L M = .ok (.lst ((lowT t).map .int)) M := by
  have l0 : line = 16777216 := rfl
  have h := (comp_map (E := FE G k) (p := .v 10) (vars := [10]) (e := .bf .max2 false [.lit (.int 0), .bin .sub false (.slot 10) (.lit (.int 1))]) (L := L) (M := M) (M1 := M) (it := .slot 11) (d := dT t) (xs := t.map .int)
    (fun x => match x with | .int v => .int (max 0 (v - 1)) | _ => .non) (ev_slot hL) rfl (by simp; omega) (fun x hx acc => by
    obtain ⟨v, hv, rfl⟩ := List.mem_map.mp hx
    have e1 : evE (FE G k) (.slot 10) ((wipeL L [10]).set 10 (some (.int v))) (M ++ [.lst acc]) = .ok (.int v) (M ++ [.lst acc]) := ev_slot (List.getElem?_set_self (by simp [hlen]))
    refine ⟨_, rfl, ?_⟩
    rw [ev_bf, evEs_lit, ev_lit, Res.bind_ok, evEs_bin, ev_bin, e1, Res.bind_ok, ev_lit, Res.bind_ok]
    rw [show binE (FE G k) .sub false (.int v) (.int 1) (M ++ [.lst acc]) = .ok (.int (v - 1)) (M ++ [.lst acc]) from rfl, Res.bind_ok, evEs_none, Res.bind_ok, Res.bind_ok, Res.bind_ok]
    show Res.ok (D.int (if v - 1 > 0 then v - 1 else 0)) _ = _
    rw [show (if v - 1 > 0 then v - 1 else 0) = max 0 (v - 1) by omega]) (fun x hx => by
    obtain ⟨v, hv, rfl⟩ := List.mem_map.mp hx
    rfl)).1
  rw [h]
  simp [lowT, Function.comp_def]
theorem low_c1 {ts : List (List Int)} (hl : ts.length ≤ 7) (hw : ∀ t ∈ ts, t.length ≤ 3) (hL : L[5]? = some (some (.lst (ts.map dT)))) (hlen : L.length = 13) : evE (FE G k) h_law_c1 L M = .ok (.lst ((ts.map lowT).map dT)) M := by
  have l0 : line = 16777216 := rfl
  have h := (comp_map (E := FE G k) (p := .v 11) (vars := [11]) (e := .bf .tuple false [h_law_c0]) (L := L) (M := M) (M1 := M) (it := .slot 5) (d := .lst (ts.map dT)) (xs := ts.map dT)
    (fun x => match x with | .tup xs => dT (lowT (xs.filterMap fun | .int i => some i | _ => none)) | _ => .non) (ev_slot hL) rfl (by simp; omega) (fun x hx acc => by
    obtain ⟨t, ht, rfl⟩ := List.mem_map.mp hx
    have e1 := low_c0 (G := G) (k := k) (t := t) (L := (wipeL L [11]).set 11 (some (dT t))) (M := M ++ [.lst acc]) (hw t ht) (List.getElem?_set_self (by simp [hlen])) (by simp [hlen])
    refine ⟨_, rfl, ?_⟩
    rw [ev_bf, evEs_comp, e1, Res.bind_ok, evEs_none, Res.bind_ok, Res.bind_ok]
    show newT ((lowT t).map D.int) _ = _
    rw [newT_ok (by have := hw t ht; simp [lowT]; omega)]
    simp [Function.comp_def]) (fun x hx => by
    obtain ⟨t, ht, rfl⟩ := List.mem_map.mp hx
    simp)).1
  rw [h]
  simp [Function.comp_def]
theorem bin_lists {E : Fe} {xs ys : List (List Int)} (h : xs.length + ys.length ≤ line) : binE E .add false (.lst (xs.map dT)) (.lst (ys.map dT)) M = .ok (.lst ((xs ++ ys).map dT)) M := by
  show newL false (xs.map dT ++ ys.map dT) M = _
  rw [newL_ok (by simpa using h), List.map_append]
theorem turn11 (hg : G.fn 1141 = some Fh_grid) {ts : List (List Int)} {w : Nat} (w3 : w ≤ 3) (hl : ts.length ≤ 7) (hw : ∀ t ∈ ts, t.length ≤ 3) :
    evS (FE G (k + 1)) b11 [a0, a1, a2, some (.int w), a4, some (.lst (ts.map dT)), a6, a7, a8, a9, a10, a11, a12] M = .nx [a0, a1, a2, some (.int w), a4, some (.lst (ts.map dT)), a6, a7, a8, some (.lst ((ts.map lowT ++ gridF 4 w).map dT)), a10, a11, a12] M := by
  have l0 : line = 16777216 := rfl
  have h7 := pow7 (most := 4) (by decide) w3
  have hgr : evE (FE G (k + 1)) (.call 1141 [.slot 3, .lit (.int 4)] [] [.inl 0, .inl 1]) [a0, a1, a2, some (.int w), a4, some (.lst (ts.map dT)), a6, a7, a8, a9, a10, a11, a12] M = .ok (.lst ((gridF 4 w).map dT)) M := by
    rw [ev_callG (vs := [.int w, .int 4]) (ws := [.int w, .int 4]) (M1 := M) (by rw [evEs_slot, ev_slot (show [a0, a1, a2, some (.int w), a4, some (.lst (ts.map dT)), a6, a7, a8, a9, a10, a11, a12][3]? = some (some (.int w)) from rfl), Res.bind_ok, evEs_lit, ev_lit, Res.bind_ok, evEs_none]; rfl) rfl]
    exact grid hg w3 (by decide)
  rw [es_asg, ev_bin, low_c1 hl hw rfl rfl, Res.bind_ok, hgr, Res.bind_ok, bin_lists (by simp; omega), toS_ok, asg_v]
  rfl
theorem low_len (t : List Int) : (lowT t).length = t.length := by simp [lowT]
/-- the loop over near ones -/
theorem turn12 (h : H26 G) (hf : G.fn 1143 = some Fh_is_in) {n : Nat} {o : AO} {most : Int} {ts near : List (List Int)} {w : Nat} (w3 : w ≤ 3) (hl : ts.length ≤ 7) (hw : ∀ t ∈ ts, t.length = w) (hn : near.length ≤ 1000) (hnw : ∀ t ∈ near, t.length = w) (hM : M[n]? = some o) (ho : Src 43 o) (h0 : 0 < most) (h1 : most < 2 ^ 200) :
    ∃ x M', evS (FE G (k + 4)) b12 [a0, a1, some (.loc n), some (.int w), some (.int most), some (.lst (ts.map dT)), a6, some (upD w (leastOf ts)), a8, some (.lst (near.map dT)), a10, a11, a12] M = .nx [a0, a1, some (.loc n), some (.int w), some (.int most), some (.lst (ts.map dT)), a6, some (upD w (leastOf ts)), a8, some (.lst (near.map dT)), a10, x, a12] M' := by
  have l0 : line = 16777216 := rfl
  generalize hL : [a0, a1, some (.loc n), some (.int w), some (.int most), some (.lst (ts.map dT)), a6, some (upD w (leastOf ts)), a8, some (.lst (near.map dT)), a10, a11, a12] = L
  have g2 : L[2]? = some (some (.loc n)) := by rw [← hL]; rfl
  have g3 : L[3]? = some (some (.int w)) := by rw [← hL]; rfl
  have g4 : L[4]? = some (some (.int most)) := by rw [← hL]; rfl
  have g5 : L[5]? = some (some (.lst (ts.map dT))) := by rw [← hL]; rfl
  have g7 : L[7]? = some (some (upD w (leastOf ts))) := by rw [← hL]; rfl
  have g9 : L[9]? = some (some (.lst (near.map dT))) := by rw [← hL]; rfl
  have g13 : L.length = 13 := by rw [← hL]; rfl
  obtain ⟨us, o', e, s, h2, h3⟩ := ev_drawn (k := k + 2) (L := L) h g2 g3 g4 hM ho (by decide) h0 h1 (by omega) (by omega)
  have hit : evE (FE G (k + 4)) (.bin .add false (.bin .add false (.slot 9) (.slot 5)) cT) L M = .ok (.lst ((near ++ ts ++ us).map dT)) (M.set n o') := by
    rw [ev_bin, ev_bin, ev_slot g9, Res.bind_ok, ev_slot g5, Res.bind_ok, bin_lists (by omega), Res.bind_ok, e, Res.bind_ok, bin_lists (by simp; omega)]
  have hall : ∀ t ∈ near ++ ts ++ us, t.length = w := by
    intro t ht
    rcases List.mem_append.mp ht with ht | ht
    · rcases List.mem_append.mp ht with ht | ht
      · exact hnw t ht
      · exact hw t ht
    · have := (h3 t ht).1
      omega
  have hout := for_nx (E := FE G (k + 4)) (p := .v 11) (body := [b12t]) (L := L) (M := M) hit (xs := (near ++ ts ++ us).map dT) rfl (fun _ L2 _ => ∃ x, L2 = L.set 11 x) ⟨a11, by rw [← hL]; rfl⟩ (fun i x L1 M2 hi hI => by
    obtain ⟨y, rfl⟩ := hI
    obtain ⟨t, ht, rfl⟩ := List.mem_map.mp (List.mem_of_getElem? hi)
    have htw := hall t ht
    refine ⟨_, rfl, ?_⟩
    have f11 : ((L.set 11 y).set 11 (some (dT t)))[11]? = some (some (dT t)) := List.getElem?_set_self (by simp [g13])
    have f7 : ((L.set 11 y).set 11 (some (dT t)))[7]? = some (some (upD w (leastOf ts))) := by rw [List.getElem?_set_ne (by decide), List.getElem?_set_ne (by decide)]; exact g7
    have f5 : ((L.set 11 y).set 11 (some (dT t)))[5]? = some (some (.lst (ts.map dT))) := by rw [List.getElem?_set_ne (by decide), List.getElem?_set_ne (by decide)]; exact g5
    have hc : evE (FE G (k + 4)) (.cmp .ne (.cmp .inn (.slot 11) (.slot 7)) (.call 1143 [.slot 11, .slot 5] [] [.inl 0, .inl 1])) ((L.set 11 y).set 11 (some (dT t))) M2 = .ok (.bl false) M2 := by
      refine cmp_of (x := .bl (ts.any (geqI t))) (y := .bl (ts.any (geqI t))) (M2 := M2) (M1 := M2) (cmp_of (ev_slot f11) (ev_slot f7) ?_) ?_ ?_
      · rw [in_up (k := k + 2) h.u (by omega) (by have := leastOf_len ts; omega), leastOf_any hw htw]
      · rw [ev_callG (vs := [dT t, .lst (ts.map dT)]) (ws := [dT t, .lst (ts.map dT)]) (M1 := M2) (by rw [evEs_slot, ev_slot f11, Res.bind_ok, evEs_slot, ev_slot f5, Res.bind_ok, evEs_none]; rfl) rfl]
        exact is_in (k := k + 2) h hf (by omega) (by omega) (fun c hc => by rw [htw, hw c hc])
      · show cmpop .ne (.bl _) (.bl _) M2 = .ok (.bl false) M2
        exact ne_same (by rw [view_b]; exact pure_bl _ _) (by rw [view_b]; exact pure_bl _ _) (by rw [view_b]; simp)
    exact ⟨(L.set 11 y).set 11 (some (dT t)), M2, .inl (by rw [eb_cons, ite_no hc, eb_nil, bind_nx, eb_nil]), still_l, some (dT t), by rw [List.set_set]⟩)
  obtain ⟨L', M', e1, x, rfl⟩ := hout
  refine ⟨x, M', ?_⟩
  rw [e1, ← hL]
  rfl
theorem turn13 (h : Ups G) {w : Int} (h0 : 0 ≤ w) (h1 : w ≤ 1000) : evS (FE G (k + 4)) b13 [a0, a1, a2, some (.int w), a4, a5, a6, a7, a8, a9, a10, a11, a12] M = .nx [a0, a1, a2, some (.int w), a4, a5, a6, a7, a8, a9, a10, a11, some (upD w [List.replicate w.toNat 0])] M := by
  have e : evE (FE G (k + 4)) (.cmet 10 "full" [.slot 3] [.inl 0, .inl 1]) [a0, a1, a2, some (.int w), a4, a5, a6, a7, a8, a9, a10, a11, a12] M = .ok (upD w [List.replicate w.toNat 0]) M := by
    rw [ev_cmet]
    show (match G.cmet 10 "full" with | some f => _ | Option.none => _) = _
    rw [h.cf]
    simp only [evEs_slot, ev_slot (show [a0, a1, a2, some (D.int w), a4, a5, a6, a7, a8, a9, a10, a11, a12][3]? = some (some (.int w)) from rfl), Res.bind_ok, evEs_none]
    exact full_up h h0 h1
  rw [es_asg, e, toS_ok, asg_v]
  rfl
theorem turn14 (h : Ups G) {w : Int} (h3 : L[3]? = some (some (.int w))) (h12 : L[12]? = some (some (upD w [List.replicate w.toNat 0]))) (h0 : 0 ≤ w) (h1 : w ≤ 1000) : ∃ M', evS (FE G (k + 2)) b14 L M = .nx L M' := by
  have l0 : line = 16777216 := rfl
  have hz := fun M => ev_zeros (G := G) (k := k + 2) (M := M) h3 h0 h1
  refine ⟨M ++ [.dead], ?_⟩
  rw [ite_no (disj3 (M1 := M ++ [.dead]) (M2 := M ++ [.dead]) (M3 := M ++ [.dead]) (cmp_of (ev_corners h (k := k + 1) (i := 12) h12 (by show 1 ≤ line; decide)) (y := .lst [dT (List.replicate w.toNat 0)]) (M2 := M ++ [.dead]) ?_ ?_) (cmp_of (hz _) (ev_slot h12) ?_) (ev_width (k := k + 1) h (i := 12) h12 h3)), eb_nil]
  · rw [ev_lst, evEs_bin, hz, Res.bind_ok, evEs_none, Res.bind_ok, Res.bind_ok, newL_1]
  · exact ne_same (pure_dTs [List.replicate w.toNat 0]) (pure_dTs [List.replicate w.toNat 0]) (by rw [view_l]; exact (peq_dTs [List.replicate w.toNat 0] [List.replicate w.toNat 0]).trans (decide_eq_true rfl))
  · rw [notin_up (k := k) h (by simp; omega) (by show 1 ≤ line; decide)]
    simp [geqI_refl]
end
end Mi
end

section
set_option autoImplicit false
set_option linter.all false
set_option Elab.async false
set_option maxRecDepth 100000
/-! H26h: the law's turn and the law. -/
namespace Mi
open Lc PySem K26
structure G26 (G : Prg) : Prop extends H26 G where
  l : G.fn 1147 = some Fh_law
  s : G.fn 1139 = some ⟨2, 4, srcB 2533⟩
  e : G.fn 1144 = some Fh_least
  i : G.fn 1143 = some Fh_is_in
  m : G.fn 1145 = some Fh_smallest
  v : G.fn 1146 = some Fh_is_shown
section
variable {G : Prg} {k : Nat} {M M1 : Store} {L : Lc.Loc}
theorem turn (h : G26 G) {ns : List Int} {i : Nat} (hi : i ≤ 63) (hl : ns.length ≤ 63) {a2 a3 a4 a5 a6 a7 a8 a9 a10 a11 a12 : Option D} :
    ∃ (c2 c3 c4 c5 c6 c7 c8 c9 c10 c11 c12 : Option D) (M' : Store), evB (FE G (k + 4)) [b1, b2, b3, b4, b5, b6, b7, b8, b9, b10, b11, b12, b13, b14] [some (.lst (ns.map .int)), some (.int i), a2, a3, a4, a5, a6, a7, a8, a9, a10, a11, a12] M = .nx [some (.lst (ns.map .int)), some (.int i), c2, c3, c4, c5, c6, c7, c8, c9, c10, c11, c12] M' := by
  have l0 : line = 16777216 := rfl
  obtain ⟨o1, e1, s1⟩ := turn1 (k := k + 3) (M := M) (a2 := a2) (a3 := a3) (a4 := a4) (a5 := a5) (a6 := a6) (a7 := a7) (a8 := a8) (a9 := a9) (a10 := a10) (a11 := a11) (a12 := a12) h.s hi hl
  obtain ⟨w, most, o2, e2, s2, w0, w3, m0, m1⟩ := turn2 (k := k + 3) (M := M) (a0 := some (.lst (ns.map .int))) (a1 := some (.int i)) (a3 := a3) (a4 := a4) (a5 := a5) (a6 := a6) (a7 := a7) (a8 := a8) (a9 := a9) (a10 := a10) (a11 := a11) (a12 := a12) h.d s1
  have m2 : most < 2 ^ 200 := Int.lt_of_le_of_lt m1 (by decide)
  obtain ⟨ts, o3, e3, s3, t7, tw⟩ := ev_drawn (k := k + 2) (M := M ++ [o2]) (L := [some (.lst (ns.map .int)), some (.int i), some (.loc M.length), some (.int w), some (.int most), a5, a6, a7, a8, a9, a10, a11, a12]) h.toH26 rfl rfl rfl (get_end M o2 []) s2 (by decide) m0 m2 (by omega) (by omega)
  rw [set_end] at e3
  have hw : ∀ t ∈ ts, t.length = w := fun t ht => by have := (tw t ht).1; omega
  have hw3 : ∀ t ∈ ts, t.length ≤ 3 := fun t ht => by rw [hw t ht]; omega
  have e3' : evS (FE G (k + 4)) b3 [some (.lst (ns.map .int)), some (.int i), some (.loc M.length), some (.int w), some (.int most), a5, a6, a7, a8, a9, a10, a11, a12] (M ++ [o2]) = .nx [some (.lst (ns.map .int)), some (.int i), some (.loc M.length), some (.int w), some (.int most), some (.lst (ts.map dT)), a6, a7, a8, a9, a10, a11, a12] (M ++ [o3]) := by
    rw [es_asg, e3, toS_ok, asg_v]
    rfl
  have e4 := turn4 (G := G) (k := k + 4) (M := M ++ [o3]) (ts := ts) (a0 := some (.lst (ns.map .int))) (a1 := some (.int i)) (a2 := some (.loc M.length)) (a3 := some (.int w)) (a4 := some (.int most)) (a6 := a6) (a7 := a7) (a8 := a8) (a9 := a9) (a10 := a10) (a11 := a11) (a12 := a12) t7
  rw [List.append_assoc] at e4
  obtain ⟨o5, e5, s5⟩ := turn5 (k := k + 1) (M := M) (o3 := o3) (w := w) (a0 := some (.lst (ns.map .int))) (a1 := some (.int i)) (a4 := some (.int most)) (a5 := some (.lst (ts.map dT))) (a7 := a7) (a8 := a8) (a9 := a9) (a10 := a10) (a11 := a11) (a12 := a12) h.toH26 s3 t7 hw3
  have e6 := turn6 (G := G) (k := k + 4) (M := M ++ [o5, .lst (ts.map dT)]) (ts := ts) (n := (M ++ [o3]).length) (a0 := some (.lst (ns.map .int))) (a1 := some (.int i)) (a2 := some (.loc M.length)) (a3 := some (.int w)) (a4 := some (.int most)) (a5 := some (.lst (ts.map dT))) (a7 := some (upD w (leastOf ts))) (a8 := a8) (a9 := a9) (a10 := a10) (a11 := a11) (a12 := a12) (get2 M o3 o5 _ [])
  rw [set2 M o3 o5 _ _ []] at e6
  have e7 := turn7 (G := G) (k := k + 2) (M := M ++ [o5, .lst []]) (ts := ts) (a0 := some (.lst (ns.map .int))) (a1 := some (.int i)) (a2 := some (.loc M.length)) (a3 := some (.int w)) (a4 := some (.int most)) (a6 := some (.loc (M ++ [o3]).length)) (a7 := some (upD w (leastOf ts))) (a8 := a8) (a9 := a9) (a10 := a10) (a11 := a11) (a12 := a12) h.toH26 h.e w3 t7 hw
  have hA : (leastOf ts).length ≤ 1000 := by have := leastOf_len ts; omega
  have hA3 : ∀ t ∈ leastOf ts, t.length ≤ 3 := fun t ht => hw3 t (leastOf_mem ht)
  have hAb : ∀ t ∈ leastOf ts, ∀ x ∈ t, x.natAbs < 10 ^ 30 := fun t ht x hx => by
    have h2 := (tw t (leastOf_mem ht)).2 x hx
    have p12 : (10 : Int) ^ 12 = 1000000000000 := by decide
    have p30 : (10 : Nat) ^ 30 = 1000000000000000000000000000000 := by decide
    omega
  generalize hL8 : [some (.lst (ns.map .int)), some (.int i), some (.loc M.length), some (.int w), some (.int most), some (.lst (ts.map dT)), some (.loc (M ++ [o3]).length), some (upD w (leastOf ts)), some (.lst ((leastOf ts).map dT)), a9, a10, a11, a12] = L8 at e7
  have g3 : L8[3]? = some (some (.int w)) := by rw [← hL8]; rfl
  have g7 : L8[7]? = some (some (upD w (leastOf ts))) := by rw [← hL8]; rfl
  have g8 : L8[8]? = some (some (.lst ((leastOf ts).map dT))) := by rw [← hL8]; rfl
  have sh : ∀ M, evE (FE G (k + 4)) cS L8 M = .ok (.bl false) M := fun M => ev_shown h.toH26 h.m h.v g7 g8 hA hA3 hAb
  have e8 : evS (FE G (k + 4)) b8 L8 (M ++ [o5, .lst []]) = .nx L8 (M ++ [o5, .lst []]) := by
    rw [ite_no (disj2 (ev_width (k := k + 3) h.u (i := 7) g7 g3) (sh _)), eb_nil]
  obtain ⟨o9, e9⟩ := turn9 (k := k + 3) (M := M ++ [o5, .lst []]) h.u g7 g3 (by omega) (by omega) hA
  rw [List.append_assoc] at e9
  have e10 : evS (FE G (k + 4)) b10 L8 (M ++ ([o5, .lst []] ++ [o9])) = .nx L8 (M ++ ([o5, .lst []] ++ [o9])) := by
    rw [ite_no (sh _), eb_nil]
  have e11 := turn11 (G := G) (k := k + 3) (M := M ++ ([o5, .lst []] ++ [o9])) (ts := ts) (w := w) (a0 := some (.lst (ns.map .int))) (a1 := some (.int i)) (a2 := some (.loc M.length)) (a4 := some (.int most)) (a6 := some (.loc (M ++ [o3]).length)) (a7 := some (upD w (leastOf ts))) (a8 := some (.lst ((leastOf ts).map dT))) (a9 := a9) (a10 := a10) (a11 := a11) (a12 := a12) h.g w3 t7 hw3
  rw [hL8] at e11
  have p7 := pow7 (most := 4) (by decide) w3
  obtain ⟨x, M12, e12⟩ := turn12 (G := G) (k := k) (M := M ++ ([o5, .lst []] ++ [o9])) (ts := ts) (w := w) (near := ts.map lowT ++ gridF 4 w) (n := M.length) (o := o5) (most := most) (a0 := some (.lst (ns.map .int))) (a1 := some (.int i)) (a6 := some (.loc (M ++ [o3]).length)) (a8 := some (.lst ((leastOf ts).map dT))) (a10 := a10) (a11 := a11) (a12 := a12) h.toH26 h.i w3 t7 hw (by simp; omega) (fun t ht => by
    rcases List.mem_append.mp ht with ht | ht
    · obtain ⟨u, hu, rfl⟩ := List.mem_map.mp ht
      rw [low_len, hw u hu]
    · exact (gridF_wide 4 w t ht).1) (get_end M o5 _) s5 m0 m2
  have e13 := turn13 (G := G) (k := k) (M := M12) (w := w) (a0 := some (.lst (ns.map .int))) (a1 := some (.int i)) (a2 := some (.loc M.length)) (a4 := some (.int most)) (a5 := some (.lst (ts.map dT))) (a6 := some (.loc (M ++ [o3]).length)) (a7 := some (upD w (leastOf ts))) (a8 := some (.lst ((leastOf ts).map dT))) (a9 := some (.lst ((ts.map lowT ++ gridF 4 w).map dT))) (a10 := a10) (a11 := x) (a12 := a12) h.u (by omega) (by omega)
  obtain ⟨M14, e14⟩ := turn14 (G := G) (k := k + 2) (M := M12) (w := w) (L := [some (.lst (ns.map .int)), some (.int i), some (.loc M.length), some (.int w), some (.int most), some (.lst (ts.map dT)), some (.loc (M ++ [o3]).length), some (upD w (leastOf ts)), some (.lst ((leastOf ts).map dT)), some (.lst ((ts.map lowT ++ gridF 4 w).map dT)), a10, x, some (upD w [List.replicate (w : Int).toNat 0])]) h.u rfl rfl (by omega) (by omega)
  refine ⟨some (.loc M.length), some (.int w), some (.int most), some (.lst (ts.map dT)), some (.loc (M ++ [o3]).length), some (upD w (leastOf ts)), some (.lst ((leastOf ts).map dT)), some (.lst ((ts.map lowT ++ gridF 4 w).map dT)), a10, x, some (upD w [List.replicate (w : Int).toNat 0]), M14, ?_⟩
  · rw [eb_cons, e1, bind_nx, eb_cons, e2, bind_nx, eb_cons, e3', bind_nx, eb_cons, e4, bind_nx, eb_cons, List.singleton_append, e5, bind_nx, eb_cons, e6, bind_nx, eb_cons, e7, bind_nx, eb_cons, e8, bind_nx, eb_cons, e9, bind_nx, eb_cons, e10, bind_nx, eb_cons, e11, bind_nx, eb_cons, e12, bind_nx, eb_cons, e13, bind_nx, eb_cons, e14, bind_nx, eb_nil]
theorem conj3 {E : Fe} {a b c : CE} {M2 M3 : Store} {M0 : Store} (ha : evE E a L M0 = .ok (.bl true) M1) (hb : evE E b L M1 = .ok (.bl true) M2) (hc : evE E c L M2 = .ok (.bl true) M3) : evE E (.conj [a, b, c]) L M0 = .ok (.bl true) M3 := by
  rw [ev_conj, evConj_cons, ha, Res.bind_ok, truth_b]
  simp only
  rw [evConj_cons, hb, Res.bind_ok, truth_b]
  simp only
  rw [evConj1, hc]
theorem least0 : leastOf [] = [] := by simp [leastOf, leastF]
theorem empty2 (h : Ups G) : evE (FE G (k + 3)) (.mk false 10 [.lit (.int 2)] [] [.inl 0, .inl 1, .inr (.tup [])]) L M = .ok (upD 2 []) M := by
  rw [ev_mk, evEs_lit, ev_lit, Res.bind_ok, evEs_none, Res.bind_ok, Res.bind_ok, evEs_none, Res.bind_ok]
  have := mk_up (k := k) (M := M) h (d := .tup []) (w := 2) (ts := []) (as := [.inl 0, .inl 1, .inr (.tup [])]) (vs := [.int 2] ++ []) rfl (fun B => .inr rfl) (by decide) nofun
  rw [least0] at this
  exact this
theorem one3 (h : Ups G) : evE (FE G (k + 3)) (.mk false 10 [.lit (.int 1), .lst false [.tup [.lit (.int 3)]]] [] [.inl 0, .inl 1, .inl 2]) L M = .ok (upD 1 [[3]]) M := by
  rw [ev_mk, evEs_lit, ev_lit, Res.bind_ok, evEs_lst, ev_lst, evEs_tup, ev_tup, evEs_lit, ev_lit, Res.bind_ok, evEs_none, Res.bind_ok, Res.bind_ok, newT_1, Res.bind_ok, evEs_none, Res.bind_ok, Res.bind_ok, newL_1, Res.bind_ok, evEs_none, Res.bind_ok, Res.bind_ok, Res.bind_ok]
  have := mk_up (k := k) (M := M) h (d := .lst [dT [3]]) (w := 1) (ts := [[3]]) (as := [.inl 0, .inl 1, .inl 2]) (vs := [.int 1, .lst [dT [3]]] ++ []) rfl (fun B => .inl rfl) (by decide) (by decide)
  rw [leastOf_one] at this
  exact this
theorem text3 : textT [[3]] = Str.ofString "(3,)" := by decide +kernel
theorem law (h : G26 G) {ns : List Int} (hl : ns.length ≤ 63) : ∃ M, callN G (k + 5) 1147 [.lst (ns.map .int)] [] = .ok (.bl true) M := by
  have l0 : line = 16777216 := rfl
  rw [callN_fn h.l rfl]
  show ∃ M, outOf [] (evB (FE G (k + 4)) h_law [some (.lst (ns.map .int)), none, none, none, none, none, none, none, none, none, none, none, none] []) = .ok (.bl true) M
  obtain ⟨n, n1, n6, hn⟩ : ∃ n : Int, 1 ≤ n ∧ n ≤ 6 ∧ evE (FE G (k + 4)) (.bf .max2 false [.lit (.int 1), .bf .min2 false [.lit (.int 6), .bf .len false [.slot 0]]]) [some (.lst (ns.map .int)), none, none, none, none, none, none, none, none, none, none, none, none] [] = .ok (.int n) [] := by
    generalize hq : (ns.length : Int) = q
    have q0 : 0 ≤ q := by omega
    refine ⟨if (if q < 6 then q else 6) > 1 then (if q < 6 then q else 6) else 1, by split <;> omega, by split <;> split <;> omega, ?_⟩
    have hlen : evE (FE G (k + 4)) (.bf .len false [.slot 0]) [some (.lst (ns.map .int)), none, none, none, none, none, none, none, none, none, none, none, none] [] = .ok (.int q) [] := by
      rw [ev_bf, evEs_slot, ev_slot (show [some (D.lst (ns.map .int)), none, none, none, none, none, none, none, none, none, none, none, none][0]? = some (some (D.lst (ns.map .int))) from rfl), Res.bind_ok, evEs_none, Res.bind_ok, Res.bind_ok]
      show Res.ok (D.int ((ns.map D.int).length : Nat)) _ = _
      rw [List.length_map, hq]
    rw [ev_bf, evEs_lit, ev_lit, Res.bind_ok, evEs_bf, ev_bf, evEs_lit, ev_lit, Res.bind_ok, evEs_bf, hlen, Res.bind_ok, evEs_none, Res.bind_ok, Res.bind_ok, Res.bind_ok]
    show Res.bind (Res.bind (Res.bind (Res.ok (D.int (if q < 6 then q else 6)) []) _) _) _ = _
    rw [Res.bind_ok, evEs_none, Res.bind_ok, Res.bind_ok, Res.bind_ok]
    rfl
  have hit := rng1 (E := FE G (k + 4)) (e := .bf .max2 false [.lit (.int 1), .bf .min2 false [.lit (.int 6), .bf .len false [.slot 0]]]) (L := [some (.lst (ns.map .int)), none, none, none, none, none, none, none, none, none, none, none, none]) (M := []) (M1 := []) (n := n) (by rw [evEs_one rfl, hn]; rfl) (by omega) (by omega)
  obtain ⟨L', M', e1, ⟨c1, c2, c3, c4, c5, c6, c7, c8, c9, c10, c11, c12, rfl⟩⟩ := for_nx (E := FE G (k + 4)) (p := .v 1) (body := [b1, b2, b3, b4, b5, b6, b7, b8, b9, b10, b11, b12, b13, b14]) hit (xs := rangeD 0 n.toNat) rfl (fun _ L2 _ => ∃ c1 c2 c3 c4 c5 c6 c7 c8 c9 c10 c11 c12 : Option D, L2 = [some (.lst (ns.map .int)), c1, c2, c3, c4, c5, c6, c7, c8, c9, c10, c11, c12]) ⟨_, _, _, _, _, _, _, _, _, _, _, _, rfl⟩ (fun i x L1 M2 hi hI => by
    obtain ⟨c1, c2, c3, c4, c5, c6, c7, c8, c9, c10, c11, c12, rfl⟩ := hI
    rw [rangeD_eq, List.getElem?_map] at hi
    have hi6 : i < n.toNat := by
      rcases Nat.lt_or_ge i n.toNat with h | h
      · exact h
      · rw [List.getElem?_eq_none (by simpa using h)] at hi
        cases hi
    rw [List.getElem?_range hi6] at hi
    have hx : x = .int (i : Nat) := by
      have : some (D.int (0 + (i : Nat))) = some x := hi
      rw [Int.zero_add] at this
      exact (Option.some.inj this).symm
    subst hx
    obtain ⟨d2, d3, d4, d5, d6, d7, d8, d9, d10, d11, d12, M3, e⟩ := turn (k := k) (M := M2) h (ns := ns) (i := i) (by omega) hl (a2 := c2) (a3 := c3) (a4 := c4) (a5 := c5) (a6 := c6) (a7 := c7) (a8 := c8) (a9 := c9) (a10 := c10) (a11 := c11) (a12 := c12)
    exact ⟨_, rfl, _, M3, .inl e, still_l, _, _, _, _, _, _, _, _, _, _, _, _, rfl⟩)
  refine ⟨[], ?_⟩
  unfold h_law
  rw [eb_cons, law_eq, e1, bind_nx, eb_cons, es_ret, conj3 (M1 := M' ++ [.dead]) (M2 := M' ++ [.dead]) (M3 := M' ++ [.dead]) (cmp_of (x := .lst []) (y := .lst []) (M1 := M' ++ [.dead]) (M2 := M' ++ [.dead]) ?_ ?_ ?_) (cmp_of (x := .str (textT [[3]])) (y := .str (Str.ofString "(3,)")) (M1 := M' ++ [.dead]) (M2 := M' ++ [.dead]) ?_ ?_ ?_) (cmp_of (x := dT [9, 9]) (y := upD 2 []) (M1 := M' ++ [.dead]) (M2 := M' ++ [.dead]) ?_ (empty2 (k := k + 1) h.u) ?_), toS_ok, bind_rt, outOf_rt]
  · exact trunc_app (M0 := []) (v := .bl true) (B := M' ++ [.dead]) rfl
  · rw [ev_frz, ev_meth, empty2 (k := k + 1) h.u, Res.bind_ok, meth_corners h.u]
    simp only [evEs_none, Res.bind_ok, List.append_nil, argsOf_l, argsOf_nil, List.getElem?_cons_zero]
    rw [corners_up h.u (ls := []) (by decide), Res.bind_ok]
    simp only [freeze, get_end, set_end]
    rfl
  · rw [ev_lst, evEs_none, Res.bind_ok, newL_0]
  · show cmpop .eq (.lst []) (.lst []) (M' ++ [.dead]) = .ok (.bl true) (M' ++ [.dead])
    exact eq_same (M := M' ++ [.dead]) (x := .lst []) (y := .lst []) rfl rfl rfl
  · rw [ev_bf, evEs_mk, one3 (k := k + 1) h.u, Res.bind_ok, evEs_none, Res.bind_ok, Res.bind_ok]
    exact strD_up (k := k + 3) h.u (by decide) (by decide) (by decide)
  · exact ev_lit
  · rw [text3]
    exact eq_same (pure_s (strOk_of _)) (pure_s (strOk_of _)) (by simp)
  · rw [ev_tup, evEs_lit, ev_lit, Res.bind_ok, evEs_lit, ev_lit, Res.bind_ok, evEs_none]
    rfl
  · rw [notin_up (k := k + 2) h.u (by decide) (by decide)]
    rfl
end
end Mi
end

section
set_option autoImplicit false
set_option linter.all false
set_option Elab.async false
set_option maxRecDepth 100000
open Lc PySem K26 Mi
theorem K26.ups : Mi.Ups K26.pd.prg := by constructor <;> rfl
theorem K26.g26 : Mi.G26 K26.pd.prg where
  u := K26.ups
  d := by rfl
  t := by rfl
  g := by rfl
  o := by rfl
  l := by rfl
  s := by rfl
  e := by rfl
  i := by rfl
  m := by rfl
  v := by rfl
theorem PySem.Challenge.cw_lonechild_k26_up_sets_holds : PySem.Challenge.rw_lonechild_k26_up_sets.Holds := by
  exact K26.holds_of 5 ⟨rfl, by decide, by decide⟩ fun ns hl => law (k := 0) K26.g26 hl
end
