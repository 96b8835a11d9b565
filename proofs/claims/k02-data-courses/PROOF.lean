import PyProof.Rows.All
import KE.RegKSuper
import PySem.Challenge.RW_surecrossing_k02_data_and_courses
import HandS.ForMost
import HandS.Flow
import HandS.Wide
import HandS.TupAny
import HandS.TupMul
import HandS.IsInst
import HandS.NoneIn
import HandS.AnyAll
import HandS.SortInts
import HandS.Zip
import HandS.Deep
import HandS.Iter
import KE.GoesMore
import KE.GoesEnum
import HandS.GenList
import PyProof.TupleOfGen
import HandS.EndOwn
import HandS.Style
import HandS.Exc
import HandS.ExcInit
import HandS.ExcField
import HandS.ExcSuper
import HandS.Ends
import HandS.WordsExc
import KE.KExcSuper
import HandS.ExcOwn
set_option Elab.async false
set_option linter.all false
set_option maxRecDepth 100000
set_option maxHeartbeats 8000000
namespace SX
open PySem PySem.Spec PyProof.Rows L2

/-! ### data, the store, results -/
inductive D where
  | non | bl (b : Bool) | int (i : Int) | str (x : Str) | tup (ds : List D) | rls (ds : List D) | loc (l : Nat)
inductive SO where
  | lst (ds : List D)
abbrev Store := List SO
abbrev Env := List (Option D)
inductive Res (α : Type) where
  | ok (a : α) (S : Store)
  | bad
def Res.bnd {α β : Type} (r : Res α) (k : α → Store → Res β) : Res β := match r with
  | .ok a S => k a S
  | .bad => .bad
@[simp] theorem bnd_ok {α β : Type} (a : α) (S : Store) (k : α → Store → Res β) : (Res.ok a S).bnd k = k a S := rfl
@[simp] theorem bnd_bad {α β : Type} (k : α → Store → Res β) : (Res.bad : Res α).bnd k = .bad := rfl
theorem bnd_eq_ok {α β : Type} {r : Res α} {k : α → Store → Res β} {b : β} {S' : Store} (h : r.bnd k = .ok b S') : ∃ a S, r = .ok a S ∧ k a S = .ok b S' := by
  cases r with
  | ok a S => exact ⟨a, S, rfl, h⟩
  | bad => cases h

inductive Flow where
  | next | ret (d : D) | brk | cont

/-! ### the language -/
inductive BO where | add | sub | mul | fdiv | mod | pow deriving DecidableEq
inductive CO where | lt | le | gt | ge | eq | ne | isN | notN | isin | notin deriving DecidableEq
/-- a module's constant -/
inductive Cst where | int (i : Int) | strs (xs : List Str) deriving DecidableEq
inductive Pr where | abs | int | len | max | min | tuple | list | any | sorted | sum deriving DecidableEq
inductive Ty where | bool | int | str | tuple | list deriving DecidableEq
inductive Mt where | append | pop | reverse deriving DecidableEq
mutual
inductive E where
  | var (i : Nat)
  | cint (i : Int) | cbl (b : Bool) | cnon | cstr (x : Str)
  | tup (es : Es) | lst (es : Es)
  | bin (op : BO) (a b : E)
  | neg (a : E) | not (a : E)
  | and (es : Es) | or (es : Es)
  | cmp (op : CO) (a b : E)
  | ite (c a b : E)
  | idx (a b : E)
  | slc (a : E) (lo hi : E)
  | absent
  | call (f : Nat) (es : Es)
  | callk (f : Nat) (es ks : Es) (perm : List Nat)
  | prim (p : Pr) (es : Es)
  | isin (t : Ty) (a : E)
  | meth (m : Mt) (o : E) (es : Es)
  | lc (elt : E) (t : Tg) (it : It) (cs : Es) (own : List Nat)
  | gcon (x : Str) (k : Cst)
  | chain (op op' : CO) (a b c : E)
  | tupG (elt : E) (t : Tg) (it : It) (cs : Es) (own : List Nat)
  | qual (all : Bool) (elt : E) (t : Tg) (it : It) (cs : Es) (own : List Nat)
  | sumG (elt : E) (t : Tg) (it : It) (cs : Es) (own : List Nat)
  | lc2 (elt : E) (t : Tg) (it : It) (cs : Es) (own : List Nat) (t1 : Tg) (it1 : It) (cs1 : Es) (own1 : List Nat)
inductive Es where
  | nil | cons (e : E) (es : Es)
inductive It where
  | seq (e : E) | range1 (e : E) | range2 (a b : E) | enum (e : E) | zip (a b : E)
inductive Tg where
  | nm (i : Nat) | tp (ts : Tgs)
inductive Tgs where
  | nil | cons (t : Tg) (ts : Tgs)
end
mutual
inductive St where
  | asg (t : Tg) (e : E)
  | par (is : List Nat) (es : Es)
  | setS (o i v : E)
  | aug (i : Nat) (op : BO) (e : E)
  | augS (o i : E) (op : BO) (e : E)
  | expr (e : E)
  | ret (e : E) | retN
  | ite (c : E) (a b : Ss)
  | wh (c : E) (b : Ss)
  | fo (t : Tg) (it : It) (b : Ss)
  | brk | cont | pass
  /-- f(..) of a def that may raise: its error is told as a value -/
  | callx (g : Nat) (es : Es)
  /-- return (z, f(..)) within try -/
  | retx (z t : E) (g : Nat) (ks : Es) (perm : List Nat) (es : Es)
  | tryx (b : Ss)
inductive Ss where
  | nil | cons (s : St) (ss : Ss)
end
def Es.len : Es → Nat
  | .nil => 0
  | .cons _ es => es.len + 1

/-! ### values' operations -/
noncomputable section
open Classical

def LINE : Nat := 16777216
def truD (d : D) (S : Store) : Option Bool := match d with
  | .non => some false
  | .bl b => some b
  | .int i => some (i != 0)
  | .str x => if x.length ≤ LINE then some ((x.length : Int) != 0) else none
  | .tup ds => some (!ds.isEmpty)
  | .rls ds => some (!ds.isEmpty)
  | .loc l => match S[l]? with
    | some (.lst ds) => some (!ds.isEmpty)
    | none => none
def new (S : Store) (o : SO) : Res D := .ok (.loc S.length) (S ++ [o])

def binD (op : BO) (a b : D) (S : Store) : Res D := match op, a, b with
  | .add, .int i, .int j => .ok (.int (i + j)) S
  | .add, .tup xs, .tup ys => if xs.length + ys.length ≤ LINE then .ok (.tup (xs ++ ys)) S else .bad
  | .add, .str x, .str y => if x.length + y.length ≤ LINE then .ok (.str (x ++ y)) S else .bad
  | .add, .loc l, .loc m => match S[l]?, S[m]? with
    | some (.lst xs), some (.lst ys) => if xs.length + ys.length ≤ LINE then new S (.lst (xs ++ ys)) else .bad
    | _, _ => .bad
  | .sub, .int i, .int j => .ok (.int (i - j)) S
  | .mul, .int i, .int j => if CMulW i j ∨ CMul i j then .ok (.int (i * j)) S else .bad
  | .mul, .tup xs, .int k => if xs ≠ [] ∧ 0 ≤ k ∧ k ≤ 1000 ∧ xs.length ≤ 1000 then .ok (.tup (List.replicate k.toNat xs).flatten) S else .bad
  | .fdiv, .int i, .int j => if CDivW i j then .ok (.int (i / j)) S else .bad
  | .mod, .int i, .int j => if 0 < j then .ok (.int (i % j)) S else .bad
  | .pow, .int i, .int j => if CPow i j then .ok (.int (i ^ j.toNat)) S else .bad
  | _, _, _ => .bad

def scalD : D → D → Option Bool
  | .non, .non => some true | .non, .int _ => some false | .int _, .non => some false | .non, .bl _ => some false | .bl _, .non => some false
  | .non, .str _ => some false | .str _, .non => some false
  | .int i, .int j => some (decide (i = j)) | .bl i, .bl j => some (decide (i = j)) | .str i, .str j => some (decide (i = j))
  | .int _, .str _ => some false | .str _, .int _ => some false | .bl _, .str _ => some false | .str _, .bl _ => some false
  | _, _ => none
mutual
/-- plain data (as the library's) -/
def pyD : D → Option PyData
  | .non => some .none
  | .bl b => some (.bool b)
  | .int i => some (.int i)
  | .str x => some (.str x)
  | .tup ds => (pyDs ds).map .tuple
  | .rls ds => (pyDs ds).map .list
  | .loc _ => none
def pyDs : List D → Option (List PyData)
  | [] => some []
  | d :: ds => match pyD d, pyDs ds with
    | some x, some xs => some (x :: xs)
    | _, _ => none
end
/-- a list of plain data, or plain data -/
def pyT (d : D) (S : Store) : Option PyData := match d with
  | .loc l => match S[l]? with
    | some (.lst ds) => (pyDs ds).map .list
    | none => none
  | d => pyD d
def eqD (a b : D) (S : Store) : Option Bool := match scalD a b with
  | some r => some r
  | none => match pyT a S, pyT b S with
    | some x, some y => if SeqAt.shaped x = true ∧ SeqAt.shaped y = true then some (PyData.eqv x y) else none
    | _, _ => none
def Cst.toD : Cst → D
  | .int i => .int i
  | .strs xs => .tup (xs.map .str)

/-- a in b -/
def inD (a b : D) (S : Store) : Option Bool := match pyT a S, pyT b S with
  | some x, some (.list ys) => if SeqAt.shaped x = true ∧ SeqAt.shaped (.list ys) = true then some (ys.any fun z => PyData.eqv z x) else none
  | some x, some (.tuple ys) => if SeqAt.shaped x = true ∧ SeqAt.shaped (.tuple ys) = true then some (ys.any fun z => PyData.eqv z x) else none
  | _, _ => none
def isNonD : D → Bool
  | .non => true
  | _ => false
def cmpD (op : CO) (a b : D) (S : Store) : Option Bool := match op, a, b with
  | .lt, .int i, .int j => some (decide (i < j))
  | .le, .int i, .int j => some (decide (i ≤ j))
  | .gt, .int i, .int j => some (decide (j < i))
  | .ge, .int i, .int j => some (decide (j ≤ i))
  | .eq, a, b => eqD a b S
  | .ne, a, b => (eqD a b S).map (!·)
  | .isN, a, .non => some (isNonD a)
  | .notN, a, .non => some (!isNonD a)
  | .isin, a, b => inD a b S
  | .notin, a, b => (inD a b S).map (!·)
  | _, _, _ => none
def ofB (o : Option Bool) (S : Store) : Res D := match o with
  | some b => .ok (.bl b) S
  | none => .bad
def seqD (d : D) (S : Store) : Option (List D) := match d with
  | .tup ds => some ds
  | .rls ds => some ds
  | .loc l => match S[l]? with
    | some (.lst ds) => some ds
    | none => none
  | _ => none
def okV (o : Option D) (S : Store) : Res D := match o with
  | some d => .ok d S
  | none => .bad
def idxD (a b : D) (S : Store) : Res D := match seqD a S, b with
  | some ds, .int i => okV (atI ds i) S
  | _, _ => .bad
/-- of a list that may be changed -/
def idxM (a b : D) (S : Store) : Res D := match a with
  | .loc l => idxD (.loc l) b S
  | _ => .bad
def cutD (xs : List D) (lo hi : Option Int) : List D := (xs.drop (HT.sIx xs.length 0 lo)).take (HT.sIx xs.length xs.length hi - HT.sIx xs.length 0 lo)
def slcD (a : D) (lo hi : Option Int) (S : Store) : Res D := match a with
  | .tup ds => .ok (.tup (cutD ds lo hi)) S
  | .rls ds => new S (.lst (cutD ds lo hi))
  | .loc l => match S[l]? with
    | some (.lst ds) => new S (.lst (cutD ds lo hi))
    | none => .bad
  | _ => .bad
def allBl : List D → Option (List Bool)
  | [] => some []
  | .bl b :: ds => (allBl ds).map (b :: ·)
  | _ => none
def pAbs (ds : List D) (S : Store) : Res D := match ds with
  | [.int i] => .ok (.int (if i < 0 then -i else i)) S
  | _ => .bad
def pInt (ds : List D) (S : Store) : Res D := match ds with
  | [.int i] => .ok (.int i) S
  | [.bl b] => .ok (.int (if b then 1 else 0)) S
  | _ => .bad
def pLen (ds : List D) (S : Store) : Res D := match ds with
  | [.str x] => if x.length ≤ LINE then .ok (.int x.length) S else .bad
  | [d] => match seqD d S with
    | some ds => .ok (.int ds.length) S
    | none => .bad
  | _ => .bad
def pMax (ds : List D) (S : Store) : Res D := match ds with
  | [.int i, .int j] => .ok (.int (if j > i then j else i)) S
  | _ => .bad
def pMin (ds : List D) (S : Store) : Res D := match ds with
  | [.int i, .int j] => .ok (.int (if j < i then j else i)) S
  | _ => .bad
def pTuple (ds : List D) (S : Store) : Res D := match ds with
  | [.tup ds] => .ok (.tup ds) S
  | [d] => match seqD d S with
    | some ds => .ok (.tup ds) S
    | none => .bad
  | _ => .bad
def pList (ds : List D) (S : Store) : Res D := match ds with
  | [d] => match seqD d S with
    | some ds => new S (.lst ds)
    | none => .bad
  | _ => .bad
def pAny (ds : List D) (S : Store) : Res D := match ds with
  | [.loc l] => match S[l]? with
    | some (.lst ds) => ofB ((allBl ds).map (·.any id)) S
    | none => .bad
  | _ => .bad
def allInt : List D → Option (List Int)
  | [] => some []
  | .int i :: ds => (allInt ds).map (i :: ·)
  | _ => none
def sortI (xs : List Int) : List Int := xs.mergeSort fun a b => decide (a ≤ b)
/-- of a list of ints -/
def intsD (d : D) (S : Store) : Option (List Int) := match d with
  | .loc l => match S[l]? with
    | some (.lst ds) => allInt ds
    | none => none
  | _ => none
def pSorted (ds : List D) (S : Store) : Res D := match ds with
  | [d] => match intsD d S with
    | some ns => new S (.lst ((sortI ns).map .int))
    | none => .bad
  | _ => .bad
def pSum (ds : List D) (S : Store) : Res D := match ds with
  | [d] => match intsD d S with
    | some ns => .ok (.int ns.sum) S
    | none => .bad
  | _ => .bad
def primD (p : Pr) (ds : List D) (S : Store) : Res D := match p with
  | .sorted => pSorted ds S
  | .sum => pSum ds S
  | .abs => pAbs ds S
  | .int => pInt ds S
  | .len => pLen ds S
  | .max => pMax ds S
  | .min => pMin ds S
  | .tuple => pTuple ds S
  | .list => pList ds S
  | .any => pAny ds S
inductive Kd where | non | bl | int | str | tup | lst deriving DecidableEq
def kdD : D → Kd
  | .non => .non | .bl _ => .bl | .int _ => .int | .str _ => .str | .tup _ => .tup | .rls _ => .lst | .loc _ => .lst
def isK (t : Ty) (k : Kd) : Bool := match t, k with
  | .bool, .bl => true
  | .int, .bl => true
  | .int, .int => true
  | .str, .str => true
  | .tuple, .tup => true
  | .list, .lst => true
  | _, _ => false
def isD (t : Ty) (d : D) : Option Bool := some (isK t (kdD d))
def mApp (o : D) (ds : List D) (S : Store) : Res D := match o, ds with
  | .loc l, [d] => match S[l]? with
    | some (.lst xs) => if xs.length < LINE then .ok .non (S.set l (.lst (xs ++ [d]))) else .bad
    | none => .bad
  | _, _ => .bad
def mPop (o : D) (ds : List D) (S : Store) : Res D := match o, ds with
  | .loc l, [] => match S[l]? with
    | some (.lst xs) => match xs[xs.length - 1]? with
      | some d => .ok d (S.set l (.lst xs.dropLast))
      | none => .bad
    | none => .bad
  | .loc l, [.int i] => match S[l]? with
    | some (.lst xs) => match ixN xs.length i with
      | some k => match xs[k]? with
        | some d => .ok d (S.set l (.lst (xs.eraseIdx k)))
        | none => .bad
      | none => .bad
    | none => .bad
  | _, _ => .bad
def mRev (o : D) (ds : List D) (S : Store) : Res D := match o, ds with
  | .loc l, [] => match S[l]? with
    | some (.lst xs) => .ok .non (S.set l (.lst xs.reverse))
    | none => .bad
  | _, _ => .bad
def methD (m : Mt) (o : D) (ds : List D) (S : Store) : Res D := match m with
  | .append => mApp o ds S
  | .pop => mPop o ds S
  | .reverse => mRev o ds S
/-- the receiver, ahead of the arguments -/
def recvOk (m : Mt) (o : D) (S : Store) : Bool := match o with
  | .loc l => match S[l]? with
    | some (.lst _) => true
    | none => false
  | _ => false
def setD (o i v : D) (S : Store) : Res Unit := match o, i with
  | .loc l, .int k => match S[l]? with
    | some (.lst xs) => match ixN xs.length k with
      | some j => .ok () (S.set l (.lst (xs.set j v)))
      | none => .bad
    | none => .bad
  | _, _ => .bad

structure R62 (n : Int) : Prop where
  lo : -(2 ^ 62) ≤ n
  hi : n < 2 ^ 62
/-! ### targets -/
mutual
def asgT : Tg → D → Store → Env → Option Env
  | .nm i, d, _, env => some (env.set i (some d))
  | .tp ts, d, S, env => match d with
    | .tup ds => asgTs ts ds S env
    | _ => none
def asgTs : Tgs → List D → Store → Env → Option Env
  | .nil, [], _, env => some env
  | .cons t ts, d :: ds, S, env => match asgT t d S env with
    | some env1 => asgTs ts ds S env1
    | none => none
  | _, _, _, _ => none
end
def wipeE (env : Env) : List Nat → Env
  | [] => env
  | v :: vs => (wipeE env vs).set v none
def setAll (env : Env) : List Nat → List D → Option Env
  | [], [] => some env
  | i :: is, d :: ds => setAll (env.set i (some d)) is ds
  | _, _ => none

/-! ### loops -/
/-- what is walked: the items; the list at l must stay as it is -/
structure Walk where
  items : List D
  guard : Option Nat
def Walk.here (w : Walk) (S : Store) : Prop := match w.guard with
  | none => True
  | some l => S[l]? = some (.lst w.items)
def forL (w : Walk) (t : Tg) (body : Env → Store → Res (Flow × Env)) : List D → Env → Store → Res (Flow × Env)
  | [], env, S => if w.here S then .ok (.next, env) S else .bad
  | d :: ds, env, S => if w.here S then
      match asgT t d S env with
      | some env1 => (body env1 S).bnd fun r S1 => match r.1 with
        | .next => forL w t body ds r.2 S1
        | .cont => forL w t body ds r.2 S1
        | .brk => .ok (.next, r.2) S1
        | .ret d => .ok (.ret d, r.2) S1
      | none => .bad
    else .bad
def lcL (w : Walk) (t : Tg) (env : Env) (own : List Nat) (tst : Env → Store → Res Bool) (elt : Env → Store → Res D) : List D → List D → Store → Res (List D)
  | [], acc, S => if w.here S then .ok acc S else .bad
  | d :: ds, acc, S => if w.here S then
      match asgT t d S (wipeE env own) with
      | some env1 => (tst env1 S).bnd fun b S1 =>
        if b = true then (elt env1 S1).bnd fun x S2 => if acc.length < LINE then lcL w t env own tst elt ds (acc ++ [x]) S2 else .bad
        else lcL w t env own tst elt ds acc S1
      | none => .bad
    else .bad
def R63 (n : Int) : Prop := -(2 ^ 63) ≤ n ∧ n < 2 ^ 63
/-- any (all = false), all (all = true) of bools -/
def qlL (all : Bool) (w : Walk) (t : Tg) (env : Env) (own : List Nat) (tst : Env → Store → Res Bool) (elt : Env → Store → Res D) : List D → Store → Res D
  | [], S => if w.here S then .ok (.bl all) S else .bad
  | d :: ds, S => if w.here S then
      match asgT t d S (wipeE env own) with
      | some env1 => (tst env1 S).bnd fun b S1 =>
        if b = true then (elt env1 S1).bnd fun x S2 => match x with
          | .bl r => if r = all then qlL all w t env own tst elt ds S2 else .ok (.bl r) S2
          | _ => .bad
        else qlL all w t env own tst elt ds S1
      | none => .bad
    else .bad
def smL (w : Walk) (t : Tg) (env : Env) (own : List Nat) (tst : Env → Store → Res Bool) (elt : Env → Store → Res D) : List D → Int → Store → Res D
  | [], acc, S => if w.here S then .ok (.int acc) S else .bad
  | d :: ds, acc, S => if w.here S then
      match asgT t d S (wipeE env own) with
      | some env1 => (tst env1 S).bnd fun b S1 =>
        if b = true then (elt env1 S1).bnd fun x S2 => match x with
          | .int r => if R63 r ∧ R63 (acc + r) then smL w t env own tst elt ds (acc + r) S2 else .bad
          | _ => .bad
        else smL w t env own tst elt ds acc S1
      | none => .bad
    else .bad
def lc2L (w : Walk) (t : Tg) (env : Env) (own : List Nat) (tst : Env → Store → Res Bool) (inner : Env → List D → Store → Res (List D)) : List D → List D → Store → Res (List D)
  | [], acc, S => if w.here S then .ok acc S else .bad
  | d :: ds, acc, S => if w.here S then
      match asgT t d S (wipeE env own) with
      | some env1 => (tst env1 S).bnd fun b S1 =>
        if b = true then (inner env1 acc S1).bnd fun acc1 S2 => lc2L w t env own tst inner ds acc1 S2
        else lc2L w t env own tst inner ds acc S1
      | none => .bad
    else .bad
def whN (c : Env → Store → Res Bool) (body : Env → Store → Res (Flow × Env)) : Nat → Env → Store → Res (Flow × Env)
  | 0, _, _ => .bad
  | n + 1, env, S => (c env S).bnd fun b S1 =>
      if b = true then (body env S1).bnd fun r S2 => match r.1 with
        | .next => whN c body n r.2 S2
        | .cont => whN c body n r.2 S2
        | .brk => .ok (.next, r.2) S2
        | .ret d => .ok (.ret d, r.2) S2
      else .ok (.next, env) S1
def whL (c : Env → Store → Res Bool) (body : Env → Store → Res (Flow × Env)) (env : Env) (S : Store) : Res (Flow × Env) :=
  if h : ∃ n, whN c body n env S ≠ .bad then whN c body (choose h) env S else .bad

/-! ### evaluation -/
def enumD (ds : List D) : List D := ds.mapIdx fun i d => .tup [.int (i : Nat), d]
def zipD (xs ys : List D) : List D := List.zipWith (fun x y => .tup [x, y]) xs ys
abbrev Fns := Nat → List D → Store → Res D
def truR (r : Res D) : Res Bool := r.bnd fun d S => match truD d S with
  | some b => .ok b S
  | none => .bad
def optI (r : Res D) : Res (Option Int) := r.bnd fun d S => match d with
  | .int i => .ok (some i) S
  | _ => .bad
def isAbs : E → Bool
  | .absent => true
  | _ => false
def permD (perm : List Nat) (ds : List D) : List D := perm.filterMap fun i => ds[i]?
mutual
def evE (F : Fns) : E → Env → Store → Res D
  | .var i, env, S => match env[i]? with
    | some (some d) => .ok d S
    | _ => .bad
  | .cint i, _, S => .ok (.int i) S
  | .cbl b, _, S => .ok (.bl b) S
  | .cnon, _, S => .ok .non S
  | .cstr x, _, S => .ok (.str x) S
  | .tup es, env, S => (evEs F es env S).bnd fun ds S1 => if ds.length ≤ LINE then .ok (.tup ds) S1 else .bad
  | .lst es, env, S => (evEs F es env S).bnd fun ds S1 => if ds.length ≤ LINE then new S1 (.lst ds) else .bad
  | .bin op a b, env, S => (evE F a env S).bnd fun x S1 => (evE F b env S1).bnd fun y S2 => binD op x y S2
  | .neg a, env, S => (evE F a env S).bnd fun x S1 => match x with
    | .int i => .ok (.int (-i)) S1
    | _ => .bad
  | .not a, env, S => (truR (evE F a env S)).bnd fun b S1 => .ok (.bl (!b)) S1
  | .and es, env, S => evAnd F es env S
  | .or es, env, S => evOr F es env S
  | .cmp op a b, env, S => (evE F a env S).bnd fun x S1 => (evE F b env S1).bnd fun y S2 => ofB (cmpD op x y S2) S2
  | .ite c a b, env, S => (truR (evE F c env S)).bnd fun k S1 => if k = true then evE F a env S1 else evE F b env S1
  | .idx a b, env, S => (evE F a env S).bnd fun x S1 => (evE F b env S1).bnd fun y S2 => idxD x y S2
  | .slc a lo hi, env, S => (evE F a env S).bnd fun x S1 =>
      (if isAbs lo = true then .ok none S1 else optI (evE F lo env S1)).bnd fun l S2 =>
      (if isAbs hi = true then .ok none S2 else optI (evE F hi env S2)).bnd fun h S3 => slcD x l h S3
  | .absent, _, _ => .bad
  | .call f es, env, S => (evEs F es env S).bnd fun ds S1 => F f ds S1
  | .callk f es ks perm, env, S => (evEs F es env S).bnd fun ds S1 => (evEs F ks env S1).bnd fun zs S2 => F f (permD perm (ds ++ zs)) S2
  | .prim p es, env, S => (evEs F es env S).bnd fun ds S1 => primD p ds S1
  | .isin t a, env, S => (evE F a env S).bnd fun x S1 => ofB (isD t x) S1
  | .meth m o es, env, S => (evE F o env S).bnd fun x S1 => if recvOk m x S1 = true then (evEs F es env S1).bnd fun ds S2 => methD m x ds S2 else .bad
  | .lc elt t it cs own, env, S => (evIt F it env S).bnd fun w S1 =>
      (lcL w t env own (fun e s => evTs F cs e s) (fun e s => evE F elt e s) w.items [] S1).bnd fun ds S2 => new S2 (.lst ds)
  | .gcon _ k, _, S => .ok k.toD S
  | .chain op op' a b c, env, S => (evE F a env S).bnd fun x S1 => (evE F b env S1).bnd fun y S2 => (ofB (cmpD op x y S2) S2).bnd fun r S3 => match r with
    | .bl true => (evE F c env S3).bnd fun z S4 => ofB (cmpD op' y z S4) S4
    | r => .ok r S3
  | .tupG elt t it cs own, env, S => (evIt F it env S).bnd fun w S1 =>
      (lcL w t env own (fun e s => evTs F cs e s) (fun e s => evE F elt e s) w.items [] S1).bnd fun ds S2 => .ok (.tup ds) S2
  | .qual all elt t it cs own, env, S => (evIt F it env S).bnd fun w S1 =>
      qlL all w t env own (fun e s => evTs F cs e s) (fun e s => evE F elt e s) w.items S1
  | .sumG elt t it cs own, env, S => (evIt F it env S).bnd fun w S1 =>
      smL w t env own (fun e s => evTs F cs e s) (fun e s => evE F elt e s) w.items 0 S1
  | .lc2 elt t it cs own t1 it1 cs1 own1, env, S => (evIt F it env S).bnd fun w S1 =>
      (lc2L w t env own (fun e s => evTs F cs e s) (fun e acc s => (evIt F it1 e s).bnd fun w1 s1 => lcL w1 t1 e own1 (fun e s => evTs F cs1 e s) (fun e s => evE F elt e s) w1.items acc s1) w.items [] S1).bnd fun ds S2 => new S2 (.lst ds)
def evEs (F : Fns) : Es → Env → Store → Res (List D)
  | .nil, _, S => .ok [] S
  | .cons e es, env, S => (evE F e env S).bnd fun d S1 => (evEs F es env S1).bnd fun ds S2 => .ok (d :: ds) S2
def evAnd (F : Fns) : Es → Env → Store → Res D
  | .nil, _, _ => .bad
  | .cons e .nil, env, S => evE F e env S
  | .cons e es, env, S => (evE F e env S).bnd fun d S1 => match truD d S1 with
    | some true => evAnd F es env S1
    | some false => .ok d S1
    | none => .bad
def evOr (F : Fns) : Es → Env → Store → Res D
  | .nil, _, _ => .bad
  | .cons e .nil, env, S => evE F e env S
  | .cons e es, env, S => (evE F e env S).bnd fun d S1 => match truD d S1 with
    | some false => evOr F es env S1
    | some true => .ok d S1
    | none => .bad
/-- a comprehension's tests: none, or one -/
def evTs (F : Fns) : Es → Env → Store → Res Bool
  | .nil, _, S => .ok true S
  | .cons e _, env, S => truR (evE F e env S)
def evIt (F : Fns) : It → Env → Store → Res Walk
  | .seq e, env, S => (evE F e env S).bnd fun d S1 => match d with
    | .tup ds => .ok ⟨ds, none⟩ S1
    | .rls ds => .ok ⟨ds, none⟩ S1
    | .loc l => match S1[l]? with
      | some (.lst ds) => .ok ⟨ds, some l⟩ S1
      | none => .bad
    | _ => .bad
  | .range1 e, env, S => (evE F e env S).bnd fun d S1 => match d with
    | .int n => if R62 n then .ok ⟨(List.range n.toNat).map fun (k : Nat) => .int (0 + (k : Int)), none⟩ S1 else .bad
    | _ => .bad
  | .range2 a b, env, S => (evE F a env S).bnd fun x S1 => (evE F b env S1).bnd fun y S2 => match x, y with
    | .int i, .int j => if R62 i ∧ R62 j then .ok ⟨(List.range (j - i).toNat).map fun (k : Nat) => .int (i + (k : Int)), none⟩ S2 else .bad
    | _, _ => .bad
  | .enum e, env, S => (evE F e env S).bnd fun d S1 => match d with
    | .tup ds => .ok ⟨enumD ds, none⟩ S1
    | _ => .bad
  | .zip a b, env, S => (evE F a env S).bnd fun x S1 => (evE F b env S1).bnd fun y S2 => match x, y with
    | .tup xs, .tup ys => .ok ⟨zipD xs ys, none⟩ S2
    | _, _ => .bad
end
def augD (op : BO) (x y : D) : Option D := match op, x, y with
  | .add, .int a, .int b => some (.int (a + b))
  | .sub, .int a, .int b => some (.int (a - b))
  | _, _, _ => none
/-- behind a call that may raise: none, or the error's own pair -/
def flX (env : Env) (d : D) (S : Store) : Res (Flow × Env) := match d with
  | .non => .ok (.next, env) S
  | .tup ds => .ok (.ret (.tup ds), env) S
  | _ => .bad
/-- sizes that the error's own text can bear -/
structure BpSz (y : Str) (i : Int) : Prop where
  hy : y.length ≤ 1000
  hi : i.natAbs.log2 < 1920
  hz : (PySem.Str.ofString (toString i)).length ≤ 1000
def rtX (x : D) (env : Env) (d : D) (S : Store) : Res (Flow × Env) := match d with
  | .non => .ok (.ret (.tup [x, .non]), env) S
  | .tup ds => if ∃ y i, ds = [.str y, .int i] ∧ BpSz y i then .ok (.ret (.tup ds), env) S else .bad
  | _ => .bad
mutual
def exS (F : Fns) : St → Env → Store → Res (Flow × Env)
  | .asg t e, env, S => (evE F e env S).bnd fun d S1 => match asgT t d S1 env with
    | some env1 => .ok (.next, env1) S1
    | none => .bad
  | .par is es, env, S => (evEs F es env S).bnd fun ds S1 => match setAll env is ds with
    | some env1 => .ok (.next, env1) S1
    | none => .bad
  | .setS o i v, env, S => (evE F v env S).bnd fun x S1 => (evE F o env S1).bnd fun y S2 => (evE F i env S2).bnd fun z S3 => (setD y z x S3).bnd fun _ S4 => .ok (.next, env) S4
  | .aug i op e, env, S => match env[i]? with
    | some (some x) => (evE F e env S).bnd fun y S1 => match augD op x y with
      | some z => .ok (.next, env.set i (some z)) S1
      | none => .bad
    | _ => .bad
  | .augS o i op e, env, S => (evE F o env S).bnd fun y S1 => (evE F i env S1).bnd fun z S2 => (idxM y z S2).bnd fun x S3 => (evE F e env S3).bnd fun d S4 => match augD op x d with
    | some r => (setD y z r S4).bnd fun _ S5 => .ok (.next, env) S5
    | none => .bad
  | .expr e, env, S => (evE F e env S).bnd fun _ S1 => .ok (.next, env) S1
  | .ret e, env, S => (evE F e env S).bnd fun d S1 => .ok (.ret d, env) S1
  | .retN, env, S => .ok (.ret .non, env) S
  | .ite c a b, env, S => (truR (evE F c env S)).bnd fun k S1 => if k = true then exSs F a env S1 else exSs F b env S1
  | .wh c b, env, S => whL (fun e s => truR (evE F c e s)) (fun e s => exSs F b e s) env S
  | .fo t it b, env, S => (evIt F it env S).bnd fun w S1 => forL w t (fun e s => exSs F b e s) w.items env S1
  | .brk, env, S => .ok (.brk, env) S
  | .cont, env, S => .ok (.cont, env) S
  | .pass, env, S => .ok (.next, env) S
  | .callx g es, env, S => (evEs F es env S).bnd fun ds S1 => (F g ds S1).bnd (flX env)
  | .retx z t g ks perm es, env, S => (evE F z env S).bnd fun x S1 => (truR (evE F t env S1)).bnd fun b S2 => (if b = true then (evEs F ks env S2).bnd fun ds S3 => .ok (permD perm ds) S3 else evEs F es env S2).bnd fun ds S3 => (F g ds S3).bnd (rtX x env)
  | .tryx b, env, S => exSs F b env S
def exSs (F : Fns) : Ss → Env → Store → Res (Flow × Env)
  | .nil, env, S => .ok (.next, env) S
  | .cons s ss, env, S => (exS F s env S).bnd fun r S1 => match r.1 with
    | .next => exSs F ss r.2 S1
    | f => .ok (f, r.2) S1
end

/-! ### defs -/
structure Fd where
  np : Nat
  ns : Nat
  body : Ss
  pure : Bool
mutual
def clD (n : Nat) : D → Bool
  | .loc l => decide (l < n)
  | .tup ds => clDs n ds
  | .rls ds => clDs n ds
  | _ => true
def clDs (n : Nat) : List D → Bool
  | [] => true
  | d :: ds => clD n d && clDs n ds
end
def clO (n : Nat) : SO → Bool
  | .lst ds => clDs n ds
/-- what is younger than n may be forgotten -/
def Cuts (S S1 : Store) : Prop := S.length ≤ S1.length ∧ ∀ j, j < S.length → S1[j]? = S[j]? ∨ ∃ o, S1[j]? = some o ∧ clO S.length o = true
def endF (fd : Fd) (S : Store) (r : Res (Flow × Env)) : Res D := r.bnd fun r S1 =>
  match r.1 with
  | .ret d => if fd.pure = true then (if Cuts S S1 ∧ clD S.length d = true then .ok d (S1.take S.length) else .bad) else .ok d S1
  | .next => if fd.pure = true then (if Cuts S S1 then .ok .non (S1.take S.length) else .bad) else .ok .non S1
  | _ => .bad
abbrev Prg := Nat → Option Fd
def callN (P : Prg) : Nat → Fns
  | 0, _, _, _ => .bad
  | n + 1, f, ds, S => match P f with
    | none => .bad
    | some fd => if ds.length = fd.np ∧ fd.np ≤ fd.ns then endF fd S (exSs (callN P n) fd.body (ds.map some ++ List.replicate (fd.ns - fd.np) none) S) else .bad
end
end SX
namespace SX
open PySem PySem.Spec PyProof.Rows L2
noncomputable section
open Classical

theorem line_eq : LINE = sizeLine := by rw [sizeLine_eq]; rfl

/-! ### data in the heap -/
def RoL (K : PySem.W.Frag) (H : Hp) (a : Addr) (xs : List V) : Prop :=
  (∃ o, H a = some (.frz o (.lst xs))) ∨
    ∃ (o : Obj) (its : Array Value) (n : Nat), K.lookup a = some o ∧ o.cls = .type "list" ∧ o.dict = none ∧ o.data = .seq its n ∧ its.size ≤ sizeLine ∧ Vals xs its.toList
theorem RoL.seq {K : PySem.W.Frag} {H : Hp} {a : Addr} {xs : List V} (h : RoL K H a xs) : SqL K H a xs := by
  rcases h with h | h
  · exact .inl (.inr h)
  · exact .inr h
mutual
def Rep (K : PySem.W.Frag) (ι : List Addr) (H : Hp) : D → V → Prop
  | .non, v => v = .non
  | .bl b, v => v = .bl b
  | .int i, v => v = .int i
  | .str x, v => v = .str x
  | .tup ds, v => ∃ a xs, v = .ref a ∧ SqT K H a xs ∧ Reps K ι H ds xs
  | .rls ds, v => ∃ a xs, v = .ref a ∧ RoL K H a xs ∧ Reps K ι H ds xs
  | .loc l, v => ∃ a, v = .ref a ∧ ι[l]? = some a
def Reps (K : PySem.W.Frag) (ι : List Addr) (H : Hp) : List D → List V → Prop
  | [], vs => vs = []
  | d :: ds, vs => ∃ v r, vs = v :: r ∧ Rep K ι H d v ∧ Reps K ι H ds r
end
def RepO (K : PySem.W.Frag) (ι : List Addr) (H : Hp) (a : Addr) : SO → Prop
  | .lst ds => ∃ xs, H a = some (.lst xs) ∧ Reps K ι H ds xs
/-- the defs' code objects and their tables -/
class Tabs where
  cs : List (Addr × Addr)
variable [Tabs]
structure SR (K : PySem.W.Frag) (ι : List Addr) (S : Store) (H : Hp) : Prop where
  nd : ι.Nodup
  len : ι.length = S.length
  at_ : ∀ (l : Nat) (o : SO) (a : Addr), S[l]? = some o → ι[l]? = some a → RepO K ι H a o
  tb : ∀ p ∈ Tabs.cs, GxR.TabG H p.2
def REnv (K : PySem.W.Frag) (ι : List Addr) (H : Hp) (env : Env) (σ : L2.St) : Prop :=
  env.length = σ.length ∧ ∀ (i : Nat) (d : D), env[i]? = some (some d) → ∃ v, σ[i]? = some (some v) ∧ Rep K ι H d v
structure Mono (ι : List Addr) (H : Hp) (ι' : List Addr) (H' : Hp) : Prop where
  pre : ∃ t, ι' = ι ++ t
  tup : ∀ a xs, H a = some (.tup xs) → H' a = some (.tup xs)
  frz : ∀ a o u, H a = some (.frz o u) → H' a = some (.frz o u)
structure Step (ι : List Addr) (H : Hp) (ι' : List Addr) (H' : Hp) : Prop extends Mono ι H ι' H' where
  keep : ∀ a o, H a = some o → a ∉ ι → (∀ ps, o ≠ .tbl ps) → H' a = some o
  tabs : ∀ a ps, H a = some (.tbl ps) → ∃ ps', H' a = some (.tbl ps') ∧ (TriplesOk ps.toList → TriplesOk ps'.toList)
  new : ∀ a, a ∈ ι' → a ∉ ι → H a = none

section
variable {K : PySem.W.Frag} {ι ι' ι'' : List Addr} {H H' H'' : Hp}
theorem Step.refl : Step ι H ι H := ⟨⟨⟨[], by simp⟩, fun _ _ h => h, fun _ _ _ h => h⟩, fun _ _ h _ _ => h, fun _ ps h => ⟨ps, h, id⟩, fun _ h n => absurd h n⟩
theorem Step.trans (a : Step ι H ι' H') (b : Step ι' H' ι'' H'') : Step ι H ι'' H'' where
  pre := by
    obtain ⟨t, e⟩ := a.pre
    obtain ⟨u, f⟩ := b.pre
    exact ⟨t ++ u, by rw [f, e, List.append_assoc]⟩
  tup := fun c xs h => b.tup c xs (a.tup c xs h)
  frz := fun c o u h => b.frz c o u (a.frz c o u h)
  tabs := fun c ps h => by
    obtain ⟨ps1, h1, t1⟩ := a.tabs c ps h
    obtain ⟨ps2, h2, t2⟩ := b.tabs c ps1 h1
    exact ⟨ps2, h2, fun z => t2 (t1 z)⟩
  keep := fun c o h n nt => by
    refine b.keep c o (a.keep c o h n nt) (fun z => ?_) nt
    have q := a.new c z n
    rw [h] at q
    cases q
  new := fun c h n => by
    by_cases hc : c ∈ ι'
    · exact a.new c hc n
    · have q := b.new c h hc
      cases e : H c with
      | none => rfl
      | some o =>
        by_cases ht : ∃ ps, o = .tbl ps
        · obtain ⟨ps, rfl⟩ := ht
          obtain ⟨ps', h', _⟩ := a.tabs c ps e
          rw [h'] at q
          cases q
        · rw [a.keep c o e n fun ps z => ht ⟨ps, z⟩] at q
          cases q
theorem Mono.get (s : Mono ι H ι' H') {l : Nat} {a : Addr} (h : ι[l]? = some a) : ι'[l]? = some a := by
  obtain ⟨t, e⟩ := s.pre
  rw [e, List.getElem?_append_left (List.getElem?_eq_some_iff.mp h).1]
  exact h
theorem Mono.sqT (s : Mono ι H ι' H') {a : Addr} {xs : List V} (h : SqT K H a xs) : SqT K H' a xs := by
  rcases h with (h | ⟨o, h⟩) | h
  · exact .inl (.inl (s.tup _ _ h))
  · exact .inl (.inr ⟨o, s.frz _ _ _ h⟩)
  · exact .inr h
theorem Mono.roL (s : Mono ι H ι' H') {a : Addr} {xs : List V} (h : RoL K H a xs) : RoL K H' a xs := by
  rcases h with ⟨o, h⟩ | h
  · exact .inl ⟨o, s.frz _ _ _ h⟩
  · exact .inr h
mutual
theorem Rep.mono (s : Mono ι H ι' H') : ∀ (d : D) (v : V), Rep K ι H d v → Rep K ι' H' d v
  | .non, v, h => by unfold Rep at h ⊢; exact h
  | .bl b, v, h => by unfold Rep at h ⊢; exact h
  | .int i, v, h => by unfold Rep at h ⊢; exact h
  | .str x, v, h => by unfold Rep at h ⊢; exact h
  | .tup ds, v, h => by
    unfold Rep at h ⊢
    obtain ⟨a, xs, e, q, r⟩ := h
    exact ⟨a, xs, e, s.sqT q, Reps.mono s ds xs r⟩
  | .rls ds, v, h => by
    unfold Rep at h ⊢
    obtain ⟨a, xs, e, q, r⟩ := h
    exact ⟨a, xs, e, s.roL q, Reps.mono s ds xs r⟩
  | .loc l, v, h => by
    unfold Rep at h ⊢
    obtain ⟨a, e, q⟩ := h
    exact ⟨a, e, s.get q⟩
theorem Reps.mono (s : Mono ι H ι' H') : ∀ (ds : List D) (vs : List V), Reps K ι H ds vs → Reps K ι' H' ds vs
  | [], vs, h => by unfold Reps at h ⊢; exact h
  | d :: ds, vs, h => by
    unfold Reps at h ⊢
    obtain ⟨v, r, e, h1, h2⟩ := h
    exact ⟨v, r, e, Rep.mono s d v h1, Reps.mono s ds r h2⟩
end
theorem Rep.step (s : Step ι H ι' H') (d : D) (v : V) (h : Rep K ι H d v) : Rep K ι' H' d v := Rep.mono s.toMono d v h
theorem Reps.step (s : Step ι H ι' H') (ds : List D) (vs : List V) (h : Reps K ι H ds vs) : Reps K ι' H' ds vs := Reps.mono s.toMono ds vs h
theorem REnv.step (s : Step ι H ι' H') {env : Env} {σ : L2.St} (h : REnv K ι H env σ) : REnv K ι' H' env σ :=
  ⟨h.1, fun i d e => let ⟨v, e1, r⟩ := h.2 i d e; ⟨v, e1, Rep.step s d v r⟩⟩
theorem REnv.set {env : Env} {σ : L2.St} (h : REnv K ι H env σ) {i : Nat} {d : D} {v : V} (r : Rep K ι H d v) : REnv K ι H (env.set i (some d)) (σ.set i (some v)) := by
  refine ⟨by rw [List.length_set, List.length_set]; exact h.1, fun j e hj => ?_⟩
  by_cases hij : i = j
  · subst hij
    by_cases hl : i < env.length
    · rw [List.getElem?_set_self hl] at hj
      have e1 : d = e := Option.some.inj (Option.some.inj hj)
      subst e1
      exact ⟨v, by rw [List.getElem?_set_self (by rw [← h.1]; exact hl)], r⟩
    · rw [List.getElem?_eq_none (by rw [List.length_set]; omega)] at hj
      cases hj
  · rw [List.getElem?_set_ne hij] at hj
    obtain ⟨w, e1, r1⟩ := h.2 j e hj
    exact ⟨w, by rw [List.getElem?_set_ne hij]; exact e1, r1⟩
theorem REnv.wiped {env : Env} {σ : L2.St} (h : REnv K ι H env σ) : ∀ (vs : List Nat), REnv K ι H (wipeE env vs) (L2.wipe σ vs)
  | [] => h
  | v :: vs => by
    have ih := REnv.wiped h vs
    unfold wipeE L2.wipe
    refine ⟨by rw [List.length_set, List.length_set]; exact ih.1, fun j e hj => ?_⟩
    by_cases hij : v = j
    · subst hij
      by_cases hl : v < (wipeE env vs).length
      · rw [List.getElem?_set_self hl] at hj
        cases hj
      · rw [List.getElem?_eq_none (by rw [List.length_set]; omega)] at hj
        cases hj
    · rw [List.getElem?_set_ne hij] at hj ⊢
      exact ih.2 j e hj

/-! ### lists of data -/
theorem Reps.len : ∀ {ds : List D} {vs : List V}, Reps K ι H ds vs → ds.length = vs.length
  | [], vs, h => by unfold Reps at h; rw [h]; rfl
  | d :: ds, vs, h => by
    unfold Reps at h
    obtain ⟨v, r, e, h1, h2⟩ := h
    rw [e, List.length_cons, List.length_cons, Reps.len h2]
theorem Reps.cons {d : D} {ds : List D} {v : V} {vs : List V} (h1 : Rep K ι H d v) (h2 : Reps K ι H ds vs) : Reps K ι H (d :: ds) (v :: vs) := by
  unfold Reps
  exact ⟨v, vs, rfl, h1, h2⟩
theorem Reps.nil : Reps K ι H [] [] := by unfold Reps; rfl
theorem Reps.uncons {d : D} {ds : List D} {vs : List V} (h : Reps K ι H (d :: ds) vs) : ∃ v r, vs = v :: r ∧ Rep K ι H d v ∧ Reps K ι H ds r := by
  unfold Reps at h
  exact h
theorem Reps.unnil {vs : List V} (h : Reps K ι H [] vs) : vs = [] := by
  unfold Reps at h
  exact h
theorem Reps.get : ∀ {ds : List D} {vs : List V} {i : Nat} {d : D}, Reps K ι H ds vs → ds[i]? = some d → ∃ v, vs[i]? = some v ∧ Rep K ι H d v
  | [], _, _, _, _, e => by simp at e
  | d :: ds, vs, 0, x, h, e => by
    obtain ⟨v, r, e1, h1, _⟩ := h.uncons
    rw [e1]
    have e2 : d = x := Option.some.inj e
    rw [← e2]
    exact ⟨v, rfl, h1⟩
  | d :: ds, vs, i + 1, x, h, e => by
    obtain ⟨v, r, e1, _, h2⟩ := h.uncons
    rw [e1]
    exact Reps.get (i := i) h2 e
theorem Reps.append : ∀ {ds es : List D} {vs ws : List V}, Reps K ι H ds vs → Reps K ι H es ws → Reps K ι H (ds ++ es) (vs ++ ws)
  | [], _, _, _, h, h2 => by rw [h.unnil]; exact h2
  | d :: ds, _, _, _, h, h2 => by
    obtain ⟨v, r, e1, h1, h3⟩ := h.uncons
    rw [e1]
    exact Reps.cons h1 (Reps.append h3 h2)
theorem Reps.take : ∀ (n : Nat) {ds : List D} {vs : List V}, Reps K ι H ds vs → Reps K ι H (ds.take n) (vs.take n)
  | 0, _, _, _ => Reps.nil
  | n + 1, [], _, h => by rw [h.unnil]; exact Reps.nil
  | n + 1, d :: ds, _, h => by
    obtain ⟨v, r, e1, h1, h3⟩ := h.uncons
    rw [e1]
    exact Reps.cons h1 (Reps.take n h3)
theorem Reps.drop : ∀ (n : Nat) {ds : List D} {vs : List V}, Reps K ι H ds vs → Reps K ι H (ds.drop n) (vs.drop n)
  | 0, _, _, h => h
  | n + 1, [], _, h => by rw [h.unnil]; exact Reps.nil
  | n + 1, d :: ds, _, h => by
    obtain ⟨v, r, e1, h1, h3⟩ := h.uncons
    rw [e1]
    exact Reps.drop n h3
theorem Reps.set {d : D} {v : V} (q : Rep K ι H d v) : ∀ (n : Nat) {ds : List D} {vs : List V}, Reps K ι H ds vs → Reps K ι H (ds.set n d) (vs.set n v)
  | n, [], _, h => by rw [h.unnil]; exact Reps.nil
  | 0, e :: ds, _, h => by
    obtain ⟨w, r, e1, h1, h3⟩ := h.uncons
    rw [e1]
    exact Reps.cons q h3
  | n + 1, e :: ds, _, h => by
    obtain ⟨w, r, e1, h1, h3⟩ := h.uncons
    rw [e1]
    exact Reps.cons h1 (Reps.set q n h3)
theorem Reps.eraseIdx : ∀ (n : Nat) {ds : List D} {vs : List V}, Reps K ι H ds vs → Reps K ι H (ds.eraseIdx n) (vs.eraseIdx n)
  | n, [], _, h => by rw [h.unnil]; exact Reps.nil
  | 0, e :: ds, _, h => by
    obtain ⟨w, r, e1, h1, h3⟩ := h.uncons
    rw [e1]
    exact h3
  | n + 1, e :: ds, _, h => by
    obtain ⟨w, r, e1, h1, h3⟩ := h.uncons
    rw [e1]
    exact Reps.cons h1 (Reps.eraseIdx n h3)
theorem Reps.dropLast {ds : List D} {vs : List V} (h : Reps K ι H ds vs) : Reps K ι H ds.dropLast vs.dropLast := by
  rw [List.dropLast_eq_take, List.dropLast_eq_take, h.len]
  exact h.take _
theorem Reps.reverse : ∀ {ds : List D} {vs : List V}, Reps K ι H ds vs → Reps K ι H ds.reverse vs.reverse
  | [], _, h => by rw [h.unnil]; exact Reps.nil
  | d :: ds, _, h => by
    obtain ⟨v, r, e1, h1, h3⟩ := h.uncons
    rw [e1, List.reverse_cons, List.reverse_cons]
    exact Reps.append (Reps.reverse h3) (Reps.cons h1 Reps.nil)
theorem Reps.rep {ds : List D} {vs : List V} (h : Reps K ι H ds vs) : ∀ k : Nat, Reps K ι H (List.replicate k ds).flatten (List.replicate k vs).flatten
  | 0 => Reps.nil
  | k + 1 => by
    rw [List.replicate_succ, List.replicate_succ, List.flatten_cons, List.flatten_cons]
    exact h.append (h.rep k)
theorem Reps.cut {ds : List D} {vs : List V} (h : Reps K ι H ds vs) (lo hi : Option Int) : Reps K ι H (cutD ds lo hi) (cutV vs lo hi) := by
  unfold cutD cutV
  rw [h.len]
  exact (h.drop _).take _
theorem Reps.atI {ds : List D} {vs : List V} {i : Int} {d : D} (h : Reps K ι H ds vs) (e : L2.atI ds i = some d) : ∃ v, L2.atI vs i = some v ∧ Rep K ι H d v := by
  unfold L2.atI at e ⊢
  rw [← h.len]
  cases q : ixN ds.length i with
  | none => rw [q] at e; cases e
  | some j =>
    rw [q] at e
    exact h.get e

/-! ### the store -/
theorem SR.of {S : Store} (s : SR K ι S H) {l : Nat} {o : SO} (h : S[l]? = some o) : ∃ a, ι[l]? = some a ∧ RepO K ι H a o := by
  have hl : l < ι.length := by
    rw [s.len]
    exact (List.getElem?_eq_some_iff.mp h).1
  exact ⟨ι[l], List.getElem?_eq_getElem hl, s.at_ l o _ h (List.getElem?_eq_getElem hl)⟩
theorem SR.lst {S : Store} (s : SR K ι S H) {l : Nat} {ds : List D} (h : S[l]? = some (.lst ds)) : ∃ a xs, ι[l]? = some a ∧ H a = some (.lst xs) ∧ Reps K ι H ds xs := by
  obtain ⟨a, e, xs, q, r⟩ := s.of h
  exact ⟨a, xs, e, q, r⟩
/-- every address of the store is a list -/
theorem SR.mem {S : Store} (s : SR K ι S H) {a : Addr} (h : a ∈ ι) : ∃ xs, H a = some (.lst xs) := by
  obtain ⟨l, hl, e⟩ := List.getElem_of_mem h
  have hs : l < S.length := by rw [← s.len]; exact hl
  have q := s.at_ l _ a (List.getElem?_eq_getElem hs) (by rw [List.getElem?_eq_getElem hl, e])
  cases r : S[l] with
  | lst ds =>
    rw [r] at q
    obtain ⟨xs, e1, _⟩ := q
    exact ⟨xs, e1⟩
theorem SR.notMem {S : Store} (s : SR K ι S H) {a : Addr} (h : H a = none) : a ∉ ι := fun z => by
  obtain ⟨xs, e⟩ := s.mem z
  rw [h] at e
  cases e
theorem step_laid {p : Addr} {o : HO} (h : H p = none) : Step ι H ι (upd H p o) where
  pre := ⟨[], by simp⟩
  tup := fun a xs e => by rw [upd_ne (ne_of_none e h)]; exact e
  frz := fun a x u e => by rw [upd_ne (ne_of_none e h)]; exact e
  keep := fun a x e _ _ => by rw [upd_ne (ne_of_none e h)]; exact e
  tabs := fun a ps e => ⟨ps, by rw [upd_ne (ne_of_none e h)]; exact e, id⟩
  new := fun a h1 h2 => absurd h1 h2
theorem RepO.step {a : Addr} {o : SO} (s : Step ι H ι' H') (k : ∀ u, H a = some u → H' a = some u) (h : RepO K ι H a o) : RepO K ι' H' a o := by
  cases o with
  | lst ds =>
    obtain ⟨xs, e, r⟩ := h
    exact ⟨xs, k _ e, Reps.step s ds xs r⟩
theorem tabG_step {P : Addr} (s : Step ι H ι' H') (h : GxR.TabG H P) : GxR.TabG H' P := by
  obtain ⟨ps, e, t⟩ := h
  obtain ⟨ps', e', t'⟩ := s.tabs P ps e
  exact ⟨ps', e', t' t⟩
theorem SR.laid {S : Store} (s : SR K ι S H) {p : Addr} {o : HO} (h : H p = none) : SR K ι S (upd H p o) :=
  ⟨s.nd, s.len, fun l x a e1 e2 => RepO.step (step_laid h) (fun u e => by rw [upd_ne (ne_of_none e h)]; exact e) (s.at_ l x a e1 e2), fun q hq => tabG_step (step_laid (ι := ι) h) (s.tb q hq)⟩
/-- a new list -/
theorem step_new {p : Addr} {xs : List V} (h : H p = none) : Step ι H (ι ++ [p]) (upd H p (.lst xs)) where
  pre := ⟨[p], rfl⟩
  tup := fun a ys e => by rw [upd_ne (ne_of_none e h)]; exact e
  frz := fun a x u e => by rw [upd_ne (ne_of_none e h)]; exact e
  keep := fun a x e _ _ => by rw [upd_ne (ne_of_none e h)]; exact e
  tabs := fun a ps e => ⟨ps, by rw [upd_ne (ne_of_none e h)]; exact e, id⟩
  new := fun a h1 h2 => by
    rcases List.mem_append.mp h1 with z | z
    · exact absurd z h2
    · rw [List.mem_singleton.mp z]; exact h
theorem SR.new {S : Store} (s : SR K ι S H) {p : Addr} {ds : List D} {xs : List V} (h : H p = none) (r : Reps K ι H ds xs) : SR K (ι ++ [p]) (S ++ [.lst ds]) (upd H p (.lst xs)) := by
  have np := s.notMem h
  refine ⟨?_, by rw [List.length_append, List.length_append, s.len]; rfl, fun l x a e1 e2 => ?_, fun q hq => tabG_step (step_new (ι := ι) h) (s.tb q hq)⟩
  · rw [List.nodup_append]
    refine ⟨s.nd, by simp, fun a ha b hb e => ?_⟩
    rw [List.mem_singleton.mp hb] at e
    exact np (e ▸ ha)
  · by_cases hl : l < S.length
    · rw [List.getElem?_append_left hl] at e1
      rw [List.getElem?_append_left (by rw [s.len]; exact hl)] at e2
      exact RepO.step (step_new h) (fun u e => by rw [upd_ne (ne_of_none e h)]; exact e) (s.at_ l x a e1 e2)
    · have hl2 : l = S.length := by
        have := (List.getElem?_eq_some_iff.mp e1).1
        rw [List.length_append] at this
        simp at this
        omega
      subst hl2
      rw [List.getElem?_append_right (Nat.le_refl _)] at e1
      rw [List.getElem?_append_right (by rw [s.len]; exact Nat.le_refl _), s.len] at e2
      simp at e1 e2
      subst e1 e2
      exact ⟨xs, upd_same, Reps.step (step_new h) ds xs r⟩
theorem new_get {S : Store} (s : SR K ι S H) (p : Addr) : (ι ++ [p])[S.length]? = some p := by
  rw [List.getElem?_append_right (by rw [s.len]; exact Nat.le_refl _), s.len]
  simp
/-- a list of the store is changed -/
theorem step_set {S : Store} (s : SR K ι S H) {a : Addr} {xs ys : List V} {l : Nat} (hl : ι[l]? = some a) (h : H a = some (.lst xs)) : Step ι H ι (upd H a (.lst ys)) where
  pre := ⟨[], by simp⟩
  tup := fun b zs e => by rw [upd_ne (ne_of e h (by intro z; cases z))]; exact e
  frz := fun b x u e => by rw [upd_ne (ne_of e h (by intro z; cases z))]; exact e
  tabs := fun b ps e => ⟨ps, by rw [upd_ne (ne_of e h (by intro z; cases z))]; exact e, id⟩
  keep := fun b x e n _ => by
    rw [upd_ne]
    · exact e
    · intro z
      subst z
      exact n (List.mem_of_getElem? hl)
  new := fun b h1 h2 => absurd h1 h2
theorem SR.set {S : Store} (s : SR K ι S H) {a : Addr} {xs ys : List V} {ds : List D} {l : Nat} (hl : ι[l]? = some a) (h : H a = some (.lst xs)) (r : Reps K ι H ds ys) : SR K ι (S.set l (.lst ds)) (upd H a (.lst ys)) := by
  refine ⟨s.nd, by rw [List.length_set]; exact s.len, fun j x b e1 e2 => ?_, fun p hp => tabG_step (step_set s hl h) (s.tb p hp)⟩
  by_cases hj : l = j
  · subst hj
    have hS : l < S.length := by rw [← s.len]; exact (List.getElem?_eq_some_iff.mp hl).1
    rw [List.getElem?_set_self hS] at e1
    rw [hl] at e2
    cases e1
    cases e2
    exact ⟨ys, upd_same, Reps.step (step_set s hl h) ds ys r⟩
  · rw [List.getElem?_set_ne hj] at e1
    have hb : b ≠ a := fun z => by
      subst z
      have h1 := List.getElem?_eq_some_iff.mp hl
      have h2 := List.getElem?_eq_some_iff.mp e2
      have pw := List.pairwise_iff_getElem.mp s.nd
      rcases Nat.lt_or_gt_of_ne hj with z | z
      · exact pw l j h1.1 h2.1 z (h1.2.trans h2.2.symm)
      · exact pw j l h2.1 h1.1 z (h2.2.trans h1.2.symm)
    exact RepO.step (step_set s hl h) (fun u e => by rw [upd_ne hb]; exact e) (s.at_ j x b e1 e2)

/-! ### closed data -/
mutual
theorem clD_of : ∀ (d : D) (v : V), Rep K ι H d v → clD ι.length d = true
  | .non, _, _ => rfl
  | .bl _, _, _ => rfl
  | .int _, _, _ => rfl
  | .str _, _, _ => rfl
  | .tup ds, v, h => by
    unfold Rep at h
    obtain ⟨a, xs, _, _, r⟩ := h
    unfold clD
    exact clDs_of ds xs r
  | .rls ds, v, h => by
    unfold Rep at h
    obtain ⟨a, xs, _, _, r⟩ := h
    unfold clD
    exact clDs_of ds xs r
  | .loc l, v, h => by
    unfold Rep at h
    obtain ⟨a, _, e⟩ := h
    unfold clD
    exact decide_eq_true (List.getElem?_eq_some_iff.mp e).1
theorem clDs_of : ∀ (ds : List D) (vs : List V), Reps K ι H ds vs → clDs ι.length ds = true
  | [], _, _ => rfl
  | d :: ds, vs, h => by
    obtain ⟨v, r, _, h1, h2⟩ := h.uncons
    unfold clDs
    rw [clD_of d v h1, clDs_of ds r h2]
    rfl
end
mutual
theorem Rep.cut {t : List Addr} : ∀ (d : D) (v : V), clD ι.length d = true → Rep K (ι ++ t) H d v → Rep K ι H d v
  | .non, v, _, h => by unfold Rep at h ⊢; exact h
  | .bl b, v, _, h => by unfold Rep at h ⊢; exact h
  | .int i, v, _, h => by unfold Rep at h ⊢; exact h
  | .str x, v, _, h => by unfold Rep at h ⊢; exact h
  | .tup ds, v, c, h => by
    unfold Rep at h ⊢
    unfold clD at c
    obtain ⟨a, xs, e, q, r⟩ := h
    exact ⟨a, xs, e, q, Reps.cutI ds xs c r⟩
  | .rls ds, v, c, h => by
    unfold Rep at h ⊢
    unfold clD at c
    obtain ⟨a, xs, e, q, r⟩ := h
    exact ⟨a, xs, e, q, Reps.cutI ds xs c r⟩
  | .loc l, v, c, h => by
    unfold Rep at h ⊢
    unfold clD at c
    obtain ⟨a, e, q⟩ := h
    rw [List.getElem?_append_left (of_decide_eq_true c)] at q
    exact ⟨a, e, q⟩
theorem Reps.cutI {t : List Addr} : ∀ (ds : List D) (vs : List V), clDs ι.length ds = true → Reps K (ι ++ t) H ds vs → Reps K ι H ds vs
  | [], vs, _, h => by rw [h.unnil]; exact Reps.nil
  | d :: ds, vs, c, h => by
    obtain ⟨v, r, e, h1, h2⟩ := h.uncons
    unfold clDs at c
    rw [Bool.and_eq_true] at c
    rw [e]
    exact Reps.cons (Rep.cut d v c.1 h1) (Reps.cutI ds r c.2 h2)
end
/-- what is younger is forgotten -/
theorem SR.back {S S' : Store} (s : SR K ι S H) (s' : SR K ι' S' H') (st : Step ι H ι' H') (e : Cuts S S') : SR K ι (S'.take S.length) H' := by
  obtain ⟨t, et⟩ := st.pre
  subst et
  obtain ⟨hle, hc⟩ := e
  refine ⟨s.nd, by rw [s.len, List.length_take]; omega, fun l x a e1 e2 => ?_, s'.tb⟩
  have hl : l < S.length := by
    have := (List.getElem?_eq_some_iff.mp e1).1
    rw [List.length_take] at this
    omega
  rw [List.getElem?_take_of_lt hl] at e1
  have q := s'.at_ l x a e1 (by rw [List.getElem?_append_left (by rw [s.len]; exact hl)]; exact e2)
  rcases hc l hl with h | ⟨o, h, ho⟩
  · rw [h] at e1
    have q0 := s.at_ l x a e1 e2
    cases x with
    | lst ds =>
      obtain ⟨xs, h1, h2⟩ := q
      obtain ⟨ys, h3, h4⟩ := q0
      exact ⟨xs, h1, Reps.cutI ds xs (clDs_of ds ys h4) h2⟩
  · rw [h] at e1
    cases e1
    cases x with
    | lst ds =>
      obtain ⟨xs, h1, h2⟩ := q
      exact ⟨xs, h1, Reps.cutI ds xs (by rw [s.len]; exact ho) h2⟩
theorem Step.back (st : Step ι H ι' H') : Step ι H ι H' := ⟨⟨⟨[], by simp⟩, st.tup, st.frz⟩, st.keep, st.tabs, fun a h n => absurd h n⟩
end
end
end SX
namespace SX
open PySem PySem.Spec PyProof.Rows L2

/-! ### t * 1 is t -/
theorem tuple_mul1 (l : Addr) (items : Array Value) (n : Nat) (dd : Option Addr) (sl : Array (Option Value)) (u : Tok) :
    Meets (Builtin.«tuple.__mul__» ⟨[.ref l, .int 1 u], []⟩) (fun _ R s => s.heap.get? l = some { cls := .type "tuple", dict := dd, data := .seq items n, slots := sl } ∧
      R (.ok (.ret (Value.ref l))) s) :=
  .of_wp fun prog w A R s h => by
    obtain ⟨hp, g, d, tk, os⟩ := s
    obtain ⟨hl, h⟩ := h
    have f1 := AutoSeq1.idx_int
    wp_walk using wpAny_loadPart' hl
    exact ⟨_, rfl, h⟩
theorem op_repT1 {X : Cx} : OpR X (binaryOp .Mult) (fun x y H Q => ∃ l xs, x = .ref l ∧ y = .int 1 ∧ SqT X.K H l xs ∧ Q (.ref l) H) := by
  intro pins s σ H x y v u Q I rx ry h
  obtain ⟨l, xs, rfl, rfl, hT, q⟩ := h
  cases rx
  obtain ⟨t, rfl⟩ := ry
  obtain ⟨its, r, ⟨⟨cls, dd, data, sl⟩, ho, hc, n, hd⟩, hs⟩ := I.tuple hT
  simp only at hc hd
  subst hc hd
  exact wpAny_binaryOp_repeat_ref (T := "tuple") (U := "int") (by decide) ⟨_, ho, rfl⟩ (fun s' => typeIs_int s' 1 t) noFill_tuple_mul F.fills_int_mul F.slot_int_rmul repeat_tuple F.slot_int_index.lookup
    (call_meets F.slot_int_rmul (typeIs_int s 1 t) F.entry_int_rmul (F.args_int_rmul_2 _ _) (int_rmul_tuple 1 t l its.toArray n dd sl)
      ⟨ho, rfl, ⟨_, ho, rfl⟩, call_meets F.slot_tuple_mul ⟨_, ho, rfl⟩ F.entry_tuple_mul (F.args_tuple_mul_2 _ _) (tuple_mul1 l its.toArray n dd sl t) ⟨ho, ⟨.ref l, H, I, rfl, q⟩⟩⟩)

/-! ### t * 0 is () -/
theorem tuple_mul0 (l : Addr) (items : Array Value) (n : Nat) (dd : Option Addr) (sl : Array (Option Value)) (u : Tok) (ne : items.isEmpty = false) :
    Meets (Builtin.«tuple.__mul__» ⟨[.ref l, .int 0 u], []⟩) (fun _ R s => s.heap.get? l = some { cls := .type "tuple", dict := dd, data := .seq items n, slots := sl } ∧
      R (.ok (.ret (Value.ref s.heap.objs.size))) { s with heap := s.heap.push { cls := Value.type "tuple", data := Data.seq #[] }, toks := s.toks }) :=
  .of_wp fun prog w A R s h => by
    obtain ⟨hp, g, d, tk, os⟩ := s
    obtain ⟨hl, h⟩ := h
    have f1 := AutoSeq1.idx_int
    wp_walk using wpAny_loadPart' hl
    have z1 : (items.isEmpty || (0 : Int) == 1) = false := by rw [ne]; rfl
    repeat (first
      | (refine wpAny_ite_false (decide_eq_false (by rw [z1]; exact Bool.false_ne_true)) ?_; wp_walk using wpAny_loadPart' hl))
    exact ⟨_, rfl, h⟩
theorem op_repT0 {X : Cx} : OpR X (binaryOp .Mult) (fun x y H Q => ∃ l xs, x = .ref l ∧ y = .int 0 ∧ SqT X.K H l xs ∧ xs ≠ [] ∧ ∀ p, H p = none → Q (.ref p) (upd H p (.tup []))) := by
  intro pins s σ H x y v u Q I rx ry h
  obtain ⟨l, xs, rfl, rfl, hT, ne, q⟩ := h
  cases rx
  obtain ⟨t, rfl⟩ := ry
  obtain ⟨its, r, ⟨⟨cls, dd, data, sl⟩, ho, hc, n, hd⟩, hs⟩ := I.tuple hT
  simp only at hc hd
  subst hc hd
  have hi : its.toArray.isEmpty = false := by
    cases its with
    | nil => exact absurd (List.eq_nil_of_length_eq_zero (by rw [r.length]; rfl)) ne
    | cons a b => rfl
  have hn : H s.heap.objs.size = none := I.hok.fresh (Nat.le_refl _)
  refine wpAny_binaryOp_repeat_ref (T := "tuple") (U := "int") (by decide) ⟨_, ho, rfl⟩ (fun s' => typeIs_int s' 0 t) noFill_tuple_mul F.fills_int_mul F.slot_int_rmul repeat_tuple F.slot_int_index.lookup
    (call_meets F.slot_int_rmul (typeIs_int s 0 t) F.entry_int_rmul (F.args_int_rmul_2 _ _) (int_rmul_tuple 0 t l its.toArray n dd sl)
      ⟨ho, rfl, ⟨_, ho, rfl⟩, call_meets F.slot_tuple_mul ⟨_, ho, rfl⟩ F.entry_tuple_mul (F.args_tuple_mul_2 _ _) (tuple_mul0 l its.toArray n dd sl t hi) ⟨ho, ?_⟩⟩)
  exact ⟨.ref s.heap.objs.size, upd H s.heap.objs.size (.tup []), I.laid (t' := s.toks) (fun b o e => Heap.get?_push_of_some _ e) (Nat.le_refl _) ⟨Nat.zero_le _, [], .nil, ⟨_, Heap.get?_push_size _ rfl, rfl, 0, rfl⟩⟩, rfl, q _ hn⟩

/-! ### x in t, where t is a tuple -/
theorem op_inT {X : Cx} (hu : X.A.units + 65 < cLine) : OpR X (compareOp .In) (fun x y H Q => ∃ d ds, Dp X.K H x d ∧ Dp X.K H y (.tuple ds) ∧ SeqAt.shaped d = true ∧ SeqAt.shaped (.tuple ds) = true ∧ Q (.bl (ds.any fun z => PyData.eqv z d)) H) := by
  intro pins s σ H x y v u Q I rx ry h
  obtain ⟨d, ds, hd, he, sd, se, q⟩ := h
  obtain ⟨as1, a1⟩ := Dp.reads I d x v hd rx
  obtain ⟨as2, a2⟩ := Dp.reads I (.tuple ds) y u he ry
  have c1 := SeqAt.canLay_of_shaped se
  have c2 := SeqAt.canLay_of_shaped sd
  refine SeqAt.in_tuple_reads a2 a1 c1 c2 (room_in_shaped sd hu) ?_
  exact ⟨.bl _, H, I, rfl, q⟩
theorem op_notInT {X : Cx} (hu : X.A.units + 65 < cLine) : OpR X (compareOp .NotIn) (fun x y H Q => ∃ d ds, Dp X.K H x d ∧ Dp X.K H y (.tuple ds) ∧ SeqAt.shaped d = true ∧ SeqAt.shaped (.tuple ds) = true ∧ Q (.bl (!ds.any fun z => PyData.eqv z d)) H) := by
  intro pins s σ H x y v u Q I rx ry h
  obtain ⟨d, ds, hd, he, sd, se, q⟩ := h
  obtain ⟨as1, a1⟩ := Dp.reads I d x v hd rx
  obtain ⟨as2, a2⟩ := Dp.reads I (.tuple ds) y u he ry
  have c1 := SeqAt.canLay_of_shaped se
  have c2 := SeqAt.canLay_of_shaped sd
  refine SeqAt.notIn_tuple_reads a2 a1 c1 c2 (room_in_shaped sd hu) ?_
  exact ⟨.bl _, H, I, rfl, q⟩

noncomputable section
open Classical
variable [Tabs]

/-! ### what a result is to bring about -/
def Got {α β : Type} (K : PySem.W.Frag) (ι : List Addr) (H : Hp) (r : Res α) (R : List Addr → Hp → α → β → Prop) (Q : β → Hp → Prop) : Prop :=
  ∃ a S', r = .ok a S' ∧ ∀ ι' H' b, Step ι H ι' H' → SR K ι' S' H' → R ι' H' a b → Q b H'
section
variable {K : PySem.W.Frag} {ι ι' : List Addr} {H H' : Hp} {α β γ : Type}
theorem got_step {r : Res α} {R : List Addr → Hp → α → β → Prop} {Q : β → Hp → Prop} (st : Step ι H ι' H') (g : Got K ι H r R Q) : Got K ι' H' r R Q := by
  obtain ⟨a, S', e, h⟩ := g
  exact ⟨a, S', e, fun ι2 H2 b s2 => h ι2 H2 b (st.trans s2)⟩
theorem got_bnd {r : Res γ} {k : γ → Store → Res α} {R : List Addr → Hp → α → β → Prop} {Q : β → Hp → Prop} (g : Got K ι H (r.bnd k) R Q) : ∃ c S1, r = .ok c S1 ∧ Got K ι H (k c S1) R Q := by
  obtain ⟨a, S', e, h⟩ := g
  obtain ⟨c, S1, e1, e2⟩ := bnd_eq_ok e
  exact ⟨c, S1, e1, a, S', e2, h⟩
theorem got_bad {R : List Addr → Hp → α → β → Prop} {Q : β → Hp → Prop} (g : Got K ι H (.bad : Res α) R Q) : False := by
  obtain ⟨a, S', e, _⟩ := g
  cases e
theorem got_ok {a : α} {S : Store} {R : List Addr → Hp → α → β → Prop} {Q : β → Hp → Prop} (g : Got K ι H (.ok a S) R Q) : ∀ ι' H' b, Step ι H ι' H' → SR K ι' S H' → R ι' H' a b → Q b H' := by
  obtain ⟨a', S', e, h⟩ := g
  cases e
  exact h
theorem got_ite {c : Prop} [Decidable c] {r1 r2 : Res α} {R : List Addr → Hp → α → β → Prop} {Q : β → Hp → Prop} (g : Got K ι H (if c then r1 else r2) R Q) : (c ∧ Got K ι H r1 R Q) ∨ (¬ c ∧ Got K ι H r2 R Q) := by
  by_cases h : c
  · rw [if_pos h] at g; exact .inl ⟨h, g⟩
  · rw [if_neg h] at g; exact .inr ⟨h, g⟩
/-- a scalar value -/
theorem got_val {d : D} {S : Store} {Q : VK} {v : V} (g : Got K ι H (.ok d S) (Rep K) Q) (s : SR K ι S H) (r : Rep K ι H d v) : Q v H := got_ok g ι H v Step.refl s r
theorem got_tup {ds : List D} {S : Store} {Q : VK} {xs : List V} (g : Got K ι H (.ok (.tup ds) S) (Rep K) Q) (s : SR K ι S H) (r : Reps K ι H ds xs) : ∀ p, H p = none → Q (.ref p) (upd H p (.tup xs)) := fun p hp => by
  refine got_ok g ι _ (.ref p) (step_laid hp) (s.laid hp) ?_
  unfold Rep
  exact ⟨p, xs, rfl, SqT.of upd_same, Reps.step (step_laid hp) ds xs r⟩
theorem got_new {ds : List D} {S : Store} {Q : VK} {xs : List V} (g : Got K ι H (new S (.lst ds)) (Rep K) Q) (s : SR K ι S H) (r : Reps K ι H ds xs) : ∀ p, H p = none → Q (.ref p) (upd H p (.lst xs)) := fun p hp => by
  refine got_ok g (ι ++ [p]) _ (.ref p) (step_new hp) (s.new hp r) ?_
  unfold Rep
  exact ⟨p, rfl, new_get s p⟩
theorem got_set {d : D} {ds : List D} {S : Store} {Q : VK} {xs ys : List V} {v : V} {l : Nat} {a : Addr} (g : Got K ι H (.ok d (S.set l (.lst ds))) (Rep K) Q) (s : SR K ι S H) (hl : ι[l]? = some a) (h : H a = some (.lst xs)) (r : Reps K ι H ds ys) (rv : Rep K ι H d v) :
    Q v (upd H a (.lst ys)) := got_ok g ι _ v (step_set s hl h) (s.set hl h r) (Rep.step (step_set s hl h) d v rv)
end

/-! ### reading data -/
section
variable {K : PySem.W.Frag} {ι : List Addr} {H : Hp} {S : Store}
theorem rep_int {i : Int} {v : V} (h : Rep K ι H (.int i) v) : v = .int i := by unfold Rep at h; exact h
theorem rep_bl {b : Bool} {v : V} (h : Rep K ι H (.bl b) v) : v = .bl b := by unfold Rep at h; exact h
theorem rep_str {x : Str} {v : V} (h : Rep K ι H (.str x) v) : v = .str x := by unfold Rep at h; exact h
theorem rep_non {v : V} (h : Rep K ι H .non v) : v = .non := by unfold Rep at h; exact h
theorem rep_tup {ds : List D} {v : V} (h : Rep K ι H (.tup ds) v) : ∃ a xs, v = .ref a ∧ SqT K H a xs ∧ Reps K ι H ds xs := by unfold Rep at h; exact h
theorem rep_rls {ds : List D} {v : V} (h : Rep K ι H (.rls ds) v) : ∃ a xs, v = .ref a ∧ RoL K H a xs ∧ Reps K ι H ds xs := by unfold Rep at h; exact h
theorem rep_loc {l : Nat} {v : V} (h : Rep K ι H (.loc l) v) : ∃ a, v = .ref a ∧ ι[l]? = some a := by unfold Rep at h; exact h
theorem to_int (i : Int) : Rep K ι H (.int i) (.int i) := by unfold Rep; rfl
theorem to_bl (b : Bool) : Rep K ι H (.bl b) (.bl b) := by unfold Rep; rfl
theorem to_str (x : Str) : Rep K ι H (.str x) (.str x) := by unfold Rep; rfl
theorem to_non : Rep K ι H .non .non := by unfold Rep; rfl
theorem rep_loc_lst {l : Nat} {v : V} {ds : List D} (s : SR K ι S H) (h : Rep K ι H (.loc l) v) (e : S[l]? = some (.lst ds)) : ∃ a xs, v = .ref a ∧ ι[l]? = some a ∧ H a = some (.lst xs) ∧ Reps K ι H ds xs := by
  obtain ⟨a, rfl, q⟩ := rep_loc h
  obtain ⟨b, xs, q2, h2, r⟩ := s.lst e
  rw [q] at q2
  cases q2
  exact ⟨a, xs, rfl, q, h2, r⟩
/-- a walked or indexed thing: a list or a tuple -/
theorem seq_of {d : D} {v : V} {ds : List D} (s : SR K ι S H) (h : Rep K ι H d v) (e : seqD d S = some ds) : ∃ a xs, v = .ref a ∧ Reps K ι H ds xs ∧ ((SqL K H a xs ∧ (∀ es, d ≠ .tup es)) ∨ (SqT K H a xs ∧ ∃ es, d = .tup es)) := by
  unfold seqD at e
  split at e
  · cases e
    obtain ⟨a, xs, rfl, q, r⟩ := rep_tup h
    exact ⟨a, xs, rfl, r, .inr ⟨q, _, rfl⟩⟩
  · cases e
    obtain ⟨a, xs, rfl, q, r⟩ := rep_rls h
    exact ⟨a, xs, rfl, r, .inl ⟨q.seq, fun es z => by cases z⟩⟩
  · split at e
    · rename_i e2
      cases e
      obtain ⟨a, xs, rfl, q, q2, r⟩ := rep_loc_lst s h e2
      exact ⟨a, xs, rfl, r, .inl ⟨SqL.of q2, fun es z => by cases z⟩⟩
    · cases e
  · cases e
theorem tru_of {d : D} {v : V} {b : Bool} (s : SR K ι S H) (h : Rep K ι H d v) (e : truD d S = some b) : TruV K v H b := by
  unfold truD at e
  split at e
  · cases e; rw [rep_non h]; exact rfl
  · cases e; rw [rep_bl h]; exact rfl
  · cases e; rw [rep_int h]; exact rfl
  · split at e
    · rename_i hl
      cases e
      rw [rep_str h]
      rw [line_eq] at hl
      exact ⟨hl, rfl⟩
    · cases e
  · rename_i ds
    cases e
    obtain ⟨a, xs, rfl, q, r⟩ := rep_tup h
    refine .inr (.inl ⟨xs, q, ?_⟩)
    have := r.len
    cases ds <;> cases xs <;> simp_all
  · rename_i ds
    cases e
    obtain ⟨a, xs, rfl, q, r⟩ := rep_rls h
    refine .inl ⟨xs, q.seq, ?_⟩
    have := r.len
    cases ds <;> cases xs <;> simp_all
  · split at e
    · rename_i ds e2
      cases e
      obtain ⟨a, xs, rfl, q, q2, r⟩ := rep_loc_lst s h e2
      refine .inl ⟨xs, SqL.of q2, ?_⟩
      have := r.len
      cases ds <;> cases xs <;> simp_all
    · cases e
end

/-! ### the operators -/
def boOp : BO → Operator
  | .add => .Add | .sub => .Sub | .mul => .Mult | .fdiv => .FloorDiv | .mod => .Mod | .pow => .Pow
def OpS (K : PySem.W.Frag) (f : D → D → Store → Res D) : R2 := fun x y H Q => ∃ ι S a b, SR K ι S H ∧ Rep K ι H a x ∧ Rep K ι H b y ∧ Got K ι H (f a b S) (Rep K) Q
section
variable {X : Cx}
theorem op_bin (op : BO) : OpR X (binaryOp (boOp op)) (OpS X.K (binD op)) := by
  intro pins s σ H x y v u Q I rx ry h
  obtain ⟨ι, S, a, b, sr, ra, rb, g⟩ := h
  unfold binD at g
  split at g
  · rename_i i j
    obtain rfl := rep_int ra
    obtain rfl := rep_int rb
    exact op_add pins s σ H _ _ v u Q I rx ry ⟨i, j, rfl, rfl, got_val g sr (to_int _)⟩
  · rename_i xs ys
    rcases got_ite g with ⟨hl, g⟩ | ⟨_, g⟩
    · obtain ⟨a, us, rfl, qa, r1⟩ := rep_tup ra
      obtain ⟨b, ws, rfl, qb, r2⟩ := rep_tup rb
      rw [line_eq, r1.len, r2.len] at hl
      have r3 := r1.append r2
      refine op_catA pins s σ H _ _ v u Q I rx ry ⟨a, b, us, ws, rfl, rfl, qa, qb, hl, fun e => ?_, fun _ e => ?_, fun _ _ => got_tup g sr r3⟩
      · subst e
        refine got_val g sr ?_
        unfold Rep
        exact ⟨b, ws, rfl, qb, r3⟩
      · subst e
        refine got_val g sr ?_
        unfold Rep
        rw [List.append_nil] at r3
        exact ⟨a, us, rfl, qa, r3⟩
    · exact (got_bad g).elim
  · rename_i i j
    rcases got_ite g with ⟨hl, g⟩ | ⟨_, g⟩
    · obtain rfl := rep_str ra
      obtain rfl := rep_str rb
      rw [line_eq] at hl
      exact op_add_str pins s σ H _ _ v u Q I rx ry ⟨i, j, rfl, rfl, hl, got_val g sr (to_str _)⟩
    · exact (got_bad g).elim
  · rename_i l m
    split at g
    · rename_i xs ys e1 e2
      rcases got_ite g with ⟨hl, g⟩ | ⟨_, g⟩
      · obtain ⟨a, us, rfl, _, qa, r1⟩ := rep_loc_lst sr ra e1
        obtain ⟨b, ws, rfl, _, qb, r2⟩ := rep_loc_lst sr rb e2
        rw [line_eq, r1.len, r2.len] at hl
        exact op_cat pins s σ H _ _ v u Q I rx ry ⟨a, b, us, ws, rfl, rfl, qa, qb, hl, got_new g sr (r1.append r2)⟩
      · exact (got_bad g).elim
    · exact (got_bad g).elim
  · rename_i i j
    obtain rfl := rep_int ra
    obtain rfl := rep_int rb
    exact op_sub pins s σ H _ _ v u Q I rx ry ⟨i, j, rfl, rfl, got_val g sr (to_int _)⟩
  · rename_i i j
    rcases got_ite g with ⟨hl, g⟩ | ⟨_, g⟩
    · obtain rfl := rep_int ra
      obtain rfl := rep_int rb
      rcases hl with hl | hl
      · exact op_mulW pins s σ H _ _ v u Q I rx ry ⟨i, j, rfl, rfl, hl, got_val g sr (to_int _)⟩
      · exact op_mul pins s σ H _ _ v u Q I rx ry ⟨i, j, rfl, rfl, hl, got_val g sr (to_int _)⟩
    · exact (got_bad g).elim
  · rename_i xs k
    rcases got_ite g with ⟨⟨h1, h2, h3, h4⟩, g⟩ | ⟨_, g⟩
    · obtain ⟨a, us, rfl, qa, r1⟩ := rep_tup ra
      obtain rfl := rep_int rb
      have r3 := r1.rep k.toNat
      by_cases hk0 : k = 0
      · subst hk0
        have ne : us ≠ [] := fun e => by
          subst e
          exact h1 (List.eq_nil_of_length_eq_zero r1.len)
        refine op_repT0 pins s σ H _ _ v u Q I rx ry ⟨a, us, rfl, rfl, qa, ne, ?_⟩
        exact got_tup g sr r3
      by_cases hk : k = 1
      · subst hk
        refine op_repT1 pins s σ H _ _ v u Q I rx ry ⟨a, us, rfl, rfl, qa, got_val g sr ?_⟩
        unfold Rep
        refine ⟨a, us, rfl, qa, ?_⟩
        simpa using r1
      · refine op_repT pins s σ H _ _ v u Q I rx ry ⟨a, k, us, rfl, rfl, qa, fun e => ?_, by omega, h3, by rw [← r1.len]; exact h4, got_tup g sr r3⟩
        subst e
        exact h1 (List.eq_nil_of_length_eq_zero r1.len)
    · exact (got_bad g).elim
  · rename_i i j
    rcases got_ite g with ⟨hl, g⟩ | ⟨_, g⟩
    · obtain rfl := rep_int ra
      obtain rfl := rep_int rb
      exact op_fdivW pins s σ H _ _ v u Q I rx ry ⟨i, j, rfl, rfl, hl, got_val g sr (to_int _)⟩
    · exact (got_bad g).elim
  · rename_i i j
    rcases got_ite g with ⟨hl, g⟩ | ⟨_, g⟩
    · obtain rfl := rep_int ra
      obtain rfl := rep_int rb
      exact op_mod pins s σ H _ _ v u Q I rx ry ⟨i, j, rfl, rfl, hl, got_val g sr (to_int _)⟩
    · exact (got_bad g).elim
  · rename_i i j
    rcases got_ite g with ⟨hl, g⟩ | ⟨_, g⟩
    · obtain rfl := rep_int ra
      obtain rfl := rep_int rb
      exact op_pow pins s σ H _ _ v u Q I rx ry ⟨i, j, rfl, rfl, hl, got_val g sr (to_int _)⟩
    · exact (got_bad g).elim
  · exact (got_bad g).elim

/-! ### comparisons -/
def coOp : CO → CmpOp
  | .lt => .Lt | .le => .LtE | .gt => .Gt | .ge => .GtE | .eq => .Eq | .ne => .NotEq | .isN => .Is | .notN => .IsNot | .isin => .In | .notin => .NotIn
theorem scal_of {K : PySem.W.Frag} {ι : List Addr} {H : Hp} {a b : D} {x y : V} {r : Bool} (ra : Rep K ι H a x) (rb : Rep K ι H b y) (e : scalD a b = some r) : scal x y = true ∧ decide (x = y) = r := by
  unfold scalD at e
  split at e
  all_goals first
    | (cases e; done)
    | (obtain rfl := rep_non ra; obtain rfl := rep_non rb; cases e; exact ⟨rfl, by simp⟩)
    | (obtain rfl := rep_non ra; obtain rfl := rep_int rb; cases e; exact ⟨rfl, by simp⟩)
    | (obtain rfl := rep_int ra; obtain rfl := rep_non rb; cases e; exact ⟨rfl, by simp⟩)
    | (obtain rfl := rep_non ra; obtain rfl := rep_bl rb; cases e; exact ⟨rfl, by simp⟩)
    | (obtain rfl := rep_bl ra; obtain rfl := rep_non rb; cases e; exact ⟨rfl, by simp⟩)
    | (obtain rfl := rep_non ra; obtain rfl := rep_str rb; cases e; exact ⟨rfl, by simp⟩)
    | (obtain rfl := rep_str ra; obtain rfl := rep_non rb; cases e; exact ⟨rfl, by simp⟩)
    | (obtain rfl := rep_int ra; obtain rfl := rep_int rb; cases e; exact ⟨rfl, by simp⟩)
    | (obtain rfl := rep_bl ra; obtain rfl := rep_bl rb; cases e; exact ⟨rfl, by simp⟩)
    | (obtain rfl := rep_str ra; obtain rfl := rep_str rb; cases e; exact ⟨rfl, by simp⟩)
    | (obtain rfl := rep_int ra; obtain rfl := rep_str rb; cases e; exact ⟨rfl, by simp⟩)
    | (obtain rfl := rep_str ra; obtain rfl := rep_int rb; cases e; exact ⟨rfl, by simp⟩)
    | (obtain rfl := rep_bl ra; obtain rfl := rep_str rb; cases e; exact ⟨rfl, by simp⟩)
    | (obtain rfl := rep_str ra; obtain rfl := rep_bl rb; cases e; exact ⟨rfl, by simp⟩)
mutual
theorem dp_of {K : PySem.W.Frag} {ι : List Addr} {H : Hp} : ∀ (d : D) (v : V) (p : PyData), Rep K ι H d v → pyD d = some p → Dp K H v p
  | .non, v, p, h, e => by unfold pyD at e; cases e; rw [rep_non h]; exact .non
  | .bl b, v, p, h, e => by unfold pyD at e; cases e; rw [rep_bl h]; exact .bl b
  | .int i, v, p, h, e => by unfold pyD at e; cases e; rw [rep_int h]; exact .int i
  | .str x, v, p, h, e => by unfold pyD at e; cases e; rw [rep_str h]; exact .str x
  | .tup ds, v, p, h, e => by
    unfold pyD at e
    obtain ⟨ps, e1, rfl⟩ := Option.map_eq_some_iff.mp e
    obtain ⟨a, xs, rfl, q, r⟩ := rep_tup h
    exact .tup q (dps_of ds xs ps r e1)
  | .rls ds, v, p, h, e => by
    unfold pyD at e
    obtain ⟨ps, e1, rfl⟩ := Option.map_eq_some_iff.mp e
    obtain ⟨a, xs, rfl, q, r⟩ := rep_rls h
    exact .lst q.seq (dps_of ds xs ps r e1)
  | .loc l, v, p, h, e => by unfold pyD at e; cases e
theorem dps_of {K : PySem.W.Frag} {ι : List Addr} {H : Hp} : ∀ (ds : List D) (vs : List V) (ps : List PyData), Reps K ι H ds vs → pyDs ds = some ps → DpAll K H vs ps
  | [], vs, ps, h, e => by unfold pyDs at e; cases e; rw [h.unnil]; exact .nil
  | d :: ds, vs, ps, h, e => by
    unfold pyDs at e
    obtain ⟨v, r, rfl, h1, h2⟩ := h.uncons
    split at e
    · rename_i x xs e1 e2
      cases e
      exact .cons (dp_of d v x h1 e1) (dps_of ds r xs h2 e2)
    · cases e
end
theorem dpT_of {K : PySem.W.Frag} {ι : List Addr} {H : Hp} {S : Store} (s : SR K ι S H) {d : D} {v : V} {p : PyData} (h : Rep K ι H d v) (e : pyT d S = some p) : Dp K H v p := by
  unfold pyT at e
  split at e
  · split at e
    · rename_i e2
      obtain ⟨ps, e1, rfl⟩ := Option.map_eq_some_iff.mp e
      obtain ⟨a, xs, rfl, _, q2, r⟩ := rep_loc_lst s h e2
      exact .lst (SqL.of q2) (dps_of _ xs ps r e1)
    · cases e
  · exact dp_of d v p h e
theorem op_eqS (hu : X.A.units + 64 < cLine) : OpR X (compareOp .Eq) (OpS X.K fun a b S => ofB (eqD a b S) S) := by
  intro pins s σ H x y v u Q I rx ry h
  obtain ⟨ι, S, a, b, sr, ra, rb, g⟩ := h
  dsimp only at g
  unfold eqD at g
  split at g
  · rename_i r e
    obtain ⟨h1, h2⟩ := scal_of ra rb e
    exact op_eq pins s σ H x y v u Q I rx ry ⟨h1, by rw [h2]; exact got_val g sr (to_bl _)⟩
  · split at g
    · rename_i p q e1 e2
      by_cases hs : SeqAt.shaped p = true ∧ SeqAt.shaped q = true
      · rw [if_pos hs] at g
        exact op_eqD hu pins s σ H x y v u Q I rx ry ⟨p, q, dpT_of sr ra e1, dpT_of sr rb e2, hs.1, hs.2, got_val g sr (to_bl _)⟩
      · rw [if_neg hs] at g
        exact (got_bad g).elim
    · exact (got_bad g).elim
theorem op_neS (hu : X.A.units + 64 < cLine) : OpR X (compareOp .NotEq) (OpS X.K fun a b S => ofB ((eqD a b S).map (!·)) S) := by
  intro pins s σ H x y v u Q I rx ry h
  obtain ⟨ι, S, a, b, sr, ra, rb, g⟩ := h
  dsimp only at g
  unfold eqD at g
  split at g
  · rename_i r e
    obtain ⟨h1, h2⟩ := scal_of ra rb e
    exact op_ne pins s σ H x y v u Q I rx ry ⟨h1, by rw [h2]; exact got_val g sr (to_bl _)⟩
  · split at g
    · rename_i p q e1 e2
      by_cases hs : SeqAt.shaped p = true ∧ SeqAt.shaped q = true
      · rw [if_pos hs] at g
        exact op_neD hu pins s σ H x y v u Q I rx ry ⟨p, q, dpT_of sr ra e1, dpT_of sr rb e2, hs.1, hs.2, got_val g sr (to_bl _)⟩
      · rw [if_neg hs] at g
        exact (got_bad g).elim
    · exact (got_bad g).elim
theorem op_inS (hu : X.A.units + 65 < cLine) : OpR X (compareOp .In) (OpS X.K fun a b S => ofB (inD a b S) S) := by
  intro pins s σ H x y v u Q I rx ry h
  obtain ⟨ι, S, a, b, sr, ra, rb, g⟩ := h
  dsimp only at g
  unfold inD at g
  split at g
  · rename_i p ys e1 e2
    by_cases hs : SeqAt.shaped p = true ∧ SeqAt.shaped (.list ys) = true
    · rw [if_pos hs] at g
      exact op_inD hu pins s σ H x y v u Q I rx ry ⟨p, ys, dpT_of sr ra e1, dpT_of sr rb e2, hs.1, hs.2, got_val g sr (to_bl _)⟩
    · rw [if_neg hs] at g
      exact (got_bad g).elim
  · rename_i p ys e1 e2
    by_cases hs : SeqAt.shaped p = true ∧ SeqAt.shaped (.tuple ys) = true
    · rw [if_pos hs] at g
      exact op_inT hu pins s σ H x y v u Q I rx ry ⟨p, ys, dpT_of sr ra e1, dpT_of sr rb e2, hs.1, hs.2, got_val g sr (to_bl _)⟩
    · rw [if_neg hs] at g
      exact (got_bad g).elim
  · exact (got_bad g).elim
theorem op_notInS (hu : X.A.units + 65 < cLine) : OpR X (compareOp .NotIn) (OpS X.K fun a b S => ofB ((inD a b S).map (!·)) S) := by
  intro pins s σ H x y v u Q I rx ry h
  obtain ⟨ι, S, a, b, sr, ra, rb, g⟩ := h
  dsimp only at g
  unfold inD at g
  split at g
  · rename_i p ys e1 e2
    by_cases hs : SeqAt.shaped p = true ∧ SeqAt.shaped (.list ys) = true
    · rw [if_pos hs] at g
      exact op_notInD hu pins s σ H x y v u Q I rx ry ⟨p, ys, dpT_of sr ra e1, dpT_of sr rb e2, hs.1, hs.2, got_val g sr (to_bl _)⟩
    · rw [if_neg hs] at g
      exact (got_bad g).elim
  · rename_i p ys e1 e2
    by_cases hs : SeqAt.shaped p = true ∧ SeqAt.shaped (.tuple ys) = true
    · rw [if_pos hs] at g
      exact op_notInT hu pins s σ H x y v u Q I rx ry ⟨p, ys, dpT_of sr ra e1, dpT_of sr rb e2, hs.1, hs.2, got_val g sr (to_bl _)⟩
    · rw [if_neg hs] at g
      exact (got_bad g).elim
  · exact (got_bad g).elim
theorem rep_isNon {K : PySem.W.Frag} {ι : List Addr} {H : Hp} {a : D} {x : V} (ra : Rep K ι H a x) : decide (x = .non) = isNonD a := by
  cases a with
  | non => cases rep_non ra; rfl
  | bl b => cases rep_bl ra; simp [isNonD]
  | int b => cases rep_int ra; simp [isNonD]
  | str b => cases rep_str ra; simp [isNonD]
  | tup b => obtain ⟨_, _, rfl, _⟩ := rep_tup ra; simp [isNonD]
  | rls b => obtain ⟨_, _, rfl, _⟩ := rep_rls ra; simp [isNonD]
  | loc b => obtain ⟨_, rfl, _⟩ := rep_loc ra; simp [isNonD]
theorem op_cmp (hu : X.A.units + 65 < cLine) (op : CO) : OpR X (compareOp (coOp op)) (OpS X.K fun a b S => ofB (cmpD op a b S) S) := by
  intro pins s σ H x y v u Q I rx ry h
  obtain ⟨ι, S, a, b, sr, ra, rb, g⟩ := h
  dsimp only at g
  unfold cmpD at g
  split at g
  · rename_i i j
    obtain rfl := rep_int ra
    obtain rfl := rep_int rb
    exact op_lt pins s σ H _ _ v u Q I rx ry ⟨i, j, rfl, rfl, got_val g sr (to_bl _)⟩
  · rename_i i j
    obtain rfl := rep_int ra
    obtain rfl := rep_int rb
    exact op_le pins s σ H _ _ v u Q I rx ry ⟨i, j, rfl, rfl, got_val g sr (to_bl _)⟩
  · rename_i i j
    obtain rfl := rep_int ra
    obtain rfl := rep_int rb
    exact op_gt pins s σ H _ _ v u Q I rx ry ⟨i, j, rfl, rfl, got_val g sr (to_bl _)⟩
  · rename_i i j
    obtain rfl := rep_int ra
    obtain rfl := rep_int rb
    exact op_ge pins s σ H _ _ v u Q I rx ry ⟨i, j, rfl, rfl, got_val g sr (to_bl _)⟩
  · exact op_eqS (by omega) pins s σ H x y v u Q I rx ry ⟨ι, S, _, _, sr, ra, rb, g⟩
  · exact op_neS (by omega) pins s σ H x y v u Q I rx ry ⟨ι, S, _, _, sr, ra, rb, g⟩
  · obtain rfl := rep_non rb
    exact op_isN pins s σ H x _ v u Q I rx ry ⟨rfl, by rw [rep_isNon ra]; exact got_val g sr (to_bl _)⟩
  · obtain rfl := rep_non rb
    exact op_notN pins s σ H x _ v u Q I rx ry ⟨rfl, by rw [rep_isNon ra]; exact got_val g sr (to_bl _)⟩
  · exact op_inS hu pins s σ H x y v u Q I rx ry ⟨ι, S, _, _, sr, ra, rb, g⟩
  · exact op_notInS hu pins s σ H x y v u Q I rx ry ⟨ι, S, _, _, sr, ra, rb, g⟩
  · exact (got_bad g).elim
end
end
end SX
namespace SX
open PySem PySem.Spec PyProof.Rows L2
noncomputable section
open Classical
variable [Tabs]
section
variable {X : Cx}

/-! ### built-in functions -/
def PrS (K : PySem.W.Frag) (p : Pr) : List V → Hp → VK → Prop := fun xs H Q => ∃ ι S ds, SR K ι S H ∧ Reps K ι H ds xs ∧ Got K ι H (primD p ds S) (Rep K) Q
theorem reps1 {K : PySem.W.Frag} {ι : List Addr} {H : Hp} {d : D} {xs : List V} (r : Reps K ι H [d] xs) : ∃ x, xs = [x] ∧ Rep K ι H d x := by
  obtain ⟨v, w, rfl, h1, h2⟩ := r.uncons
  rw [h2.unnil]
  exact ⟨v, rfl, h1⟩
theorem reps2 {K : PySem.W.Frag} {ι : List Addr} {H : Hp} {d e : D} {xs : List V} (r : Reps K ι H [d, e] xs) : ∃ x y, xs = [x, y] ∧ Rep K ι H d x ∧ Rep K ι H e y := by
  obtain ⟨v, w, rfl, h1, h2⟩ := r.uncons
  obtain ⟨y, rfl, h3⟩ := reps1 h2
  exact ⟨v, y, rfl, h1, h3⟩
theorem pr_abs : CallR X (.builtin "abs") (PrS X.K .abs) := by
  intro pins s σ H xs us Q I r h
  obtain ⟨ι, S, ds, sr, rr, g⟩ := h
  unfold primD at g
  dsimp only at g
  unfold pAbs at g
  split at g
  all_goals first | exact (got_bad g).elim | skip
  rename_i i
  obtain ⟨x, rfl, r1⟩ := reps1 rr
  obtain rfl := rep_int r1
  exact call_abs pins s σ H _ us Q I r ⟨i, rfl, got_val g sr (to_int _)⟩
theorem pr_max (hc : X.calm = true) : CallR X (.builtin "max") (PrS X.K .max) := by
  intro pins s σ H xs us Q I r h
  obtain ⟨ι, S, ds, sr, rr, g⟩ := h
  unfold primD at g
  dsimp only at g
  unfold pMax at g
  split at g
  all_goals first | exact (got_bad g).elim | skip
  rename_i i j
  obtain ⟨x, y, rfl, r1, r2⟩ := reps2 rr
  obtain rfl := rep_int r1
  obtain rfl := rep_int r2
  exact call_max2 hc pins s σ H _ us Q I r ⟨i, j, rfl, got_val g sr (to_int _)⟩
theorem pr_min (hc : X.calm = true) : CallR X (.builtin "min") (PrS X.K .min) := by
  intro pins s σ H xs us Q I r h
  obtain ⟨ι, S, ds, sr, rr, g⟩ := h
  unfold primD at g
  dsimp only at g
  unfold pMin at g
  split at g
  all_goals first | exact (got_bad g).elim | skip
  rename_i i j
  obtain ⟨x, y, rfl, r1, r2⟩ := reps2 rr
  obtain rfl := rep_int r1
  obtain rfl := rep_int r2
  exact call_min2 hc pins s σ H _ us Q I r ⟨i, j, rfl, got_val g sr (to_int _)⟩
theorem pr_int : CallR X (.type "int") (PrS X.K .int) := by
  intro pins s σ H xs us Q I r h
  obtain ⟨ι, S, ds, sr, rr, g⟩ := h
  unfold primD at g
  dsimp only at g
  unfold pInt at g
  split at g
  all_goals first | exact (got_bad g).elim | skip
  · rename_i i
    obtain ⟨x, rfl, r1⟩ := reps1 rr
    obtain rfl := rep_int r1
    exact call_int1 pins s σ H _ us Q I r (.inl ⟨i, rfl, got_val g sr (to_int _)⟩)
  · rename_i i
    obtain ⟨x, rfl, r1⟩ := reps1 rr
    obtain rfl := rep_bl r1
    exact call_int1 pins s σ H _ us Q I r (.inr ⟨i, rfl, got_val g sr (to_int _)⟩)
theorem pr_len : CallR X (.builtin "len") (PrS X.K .len) := by
  intro pins s σ H xs us Q I r h
  obtain ⟨ι, S, ds, sr, rr, g⟩ := h
  unfold primD at g
  dsimp only at g
  unfold pLen at g
  split at g
  all_goals first | exact (got_bad g).elim | skip
  · rename_i z
    rcases got_ite g with ⟨hl, g⟩ | ⟨_, g⟩
    · obtain ⟨x, rfl, r1⟩ := reps1 rr
      obtain rfl := rep_str r1
      rw [line_eq] at hl
      exact call_len_str pins s σ H _ us Q I r ⟨z, rfl, hl, got_val g sr (to_int _)⟩
    · exact (got_bad g).elim
  · rename_i d _
    split at g
    · rename_i es e
      obtain ⟨x, rfl, r1⟩ := reps1 rr
      obtain ⟨a, ys, rfl, r2, hs⟩ := seq_of sr r1 e
      have g' := got_val g sr (to_int _)
      rw [r2.len] at g'
      refine call_len_seq pins s σ H _ us Q I r ⟨a, ys, rfl, ?_, g'⟩
      rcases hs with ⟨h, _⟩ | ⟨h, _⟩
      · exact .inl h
      · exact .inr h
    · exact (got_bad g).elim
theorem rep_tupI {K : PySem.W.Frag} {ι : List Addr} {H : Hp} {ds : List D} {a : Addr} {xs : List V} (q : SqT K H a xs) (r : Reps K ι H ds xs) : Rep K ι H (.tup ds) (.ref a) := by
  unfold Rep
  exact ⟨a, xs, rfl, q, r⟩
theorem pr_tuple : CallR X (.type "tuple") (PrS X.K .tuple) := by
  intro pins s σ H xs us Q I r h
  obtain ⟨ι, S, ds, sr, rr, g⟩ := h
  unfold primD at g
  dsimp only at g
  unfold pTuple at g
  split at g
  all_goals first | exact (got_bad g).elim | skip
  · obtain ⟨x, rfl, r1⟩ := reps1 rr
    obtain ⟨a, ys, rfl, q, r2⟩ := rep_tup r1
    exact call_tuple_of pins s σ H _ us Q I r ⟨a, ys, rfl, .inr ⟨q, got_val g sr r1⟩⟩
  · rename_i d hd
    split at g
    · rename_i es e
      obtain ⟨x, rfl, r1⟩ := reps1 rr
      obtain ⟨a, ys, rfl, r2, hs⟩ := seq_of sr r1 e
      rcases hs with ⟨h, _⟩ | ⟨h, fs, rfl⟩
      · exact call_tuple_of pins s σ H _ us Q I r ⟨a, ys, rfl, .inl ⟨h, got_tup g sr r2⟩⟩
      · exact (hd fs rfl).elim
    · exact (got_bad g).elim
theorem pr_list : CallR X (.type "list") (PrS X.K .list) := by
  intro pins s σ H xs us Q I r h
  obtain ⟨ι, S, ds, sr, rr, g⟩ := h
  unfold primD at g
  dsimp only at g
  unfold pList at g
  split at g
  all_goals first | exact (got_bad g).elim | skip
  rename_i d
  split at g
  · rename_i es e
    obtain ⟨x, rfl, r1⟩ := reps1 rr
    obtain ⟨a, ys, rfl, r2, hs⟩ := seq_of sr r1 e
    refine call_list_of pins s σ H _ us Q I r ⟨a, ys, rfl, ?_, got_new g sr r2⟩
    rcases hs with ⟨h, _⟩ | ⟨h, _⟩
    · exact .inl h
    · exact .inr h
  · exact (got_bad g).elim
theorem allBl_of {K : PySem.W.Frag} {ι : List Addr} {H : Hp} : ∀ {ds : List D} {xs : List V} {bs : List Bool}, Reps K ι H ds xs → allBl ds = some bs → xs = bs.map V.bl
  | [], xs, bs, r, e => by unfold allBl at e; cases e; rw [r.unnil]; rfl
  | .bl b :: ds, xs, bs, r, e => by
    unfold allBl at e
    obtain ⟨cs, e1, rfl⟩ := Option.map_eq_some_iff.mp e
    obtain ⟨v, w, rfl, h1, h2⟩ := r.uncons
    rw [rep_bl h1, allBl_of h2 e1]
    rfl
  | .non :: ds, xs, bs, r, e => by unfold allBl at e; cases e
  | .int _ :: ds, xs, bs, r, e => by unfold allBl at e; cases e
  | .str _ :: ds, xs, bs, r, e => by unfold allBl at e; cases e
  | .tup _ :: ds, xs, bs, r, e => by unfold allBl at e; cases e
  | .rls _ :: ds, xs, bs, r, e => by unfold allBl at e; cases e
  | .loc _ :: ds, xs, bs, r, e => by unfold allBl at e; cases e
theorem pr_any (hc : X.calm = true) : CallR X (.builtin "any") (PrS X.K .any) := by
  intro pins s σ H xs us Q I r h
  obtain ⟨ι, S, ds, sr, rr, g⟩ := h
  unfold primD at g
  dsimp only at g
  unfold pAny at g
  split at g
  all_goals first | exact (got_bad g).elim | skip
  rename_i l
  split at g
  · rename_i es e
    obtain ⟨x, rfl, r1⟩ := reps1 rr
    obtain ⟨a, ys, rfl, _, q, r2⟩ := rep_loc_lst sr r1 e
    unfold ofB at g
    split at g
    · rename_i b eb
      obtain ⟨bs, e1, rfl⟩ := Option.map_eq_some_iff.mp eb
      have e2 := allBl_of r2 e1
      subst e2
      exact cr_any hc pins s σ H _ us Q I r ⟨a, bs, rfl, SqL.of q, got_val g sr (to_bl _)⟩
    · exact (got_bad g).elim
  · exact (got_bad g).elim
theorem allInt_of {K : PySem.W.Frag} {ι : List Addr} {H : Hp} : ∀ {ds : List D} {xs : List V} {ns : List Int}, Reps K ι H ds xs → allInt ds = some ns → xs = ns.map V.int
  | [], xs, ns, r, e => by unfold allInt at e; cases e; rw [r.unnil]; rfl
  | .int b :: ds, xs, ns, r, e => by
    unfold allInt at e
    obtain ⟨cs, e1, rfl⟩ := Option.map_eq_some_iff.mp e
    obtain ⟨v, w, rfl, h1, h2⟩ := r.uncons
    rw [rep_int h1, allInt_of h2 e1]
    rfl
  | .non :: ds, xs, ns, r, e => by unfold allInt at e; cases e
  | .bl _ :: ds, xs, ns, r, e => by unfold allInt at e; cases e
  | .str _ :: ds, xs, ns, r, e => by unfold allInt at e; cases e
  | .tup _ :: ds, xs, ns, r, e => by unfold allInt at e; cases e
  | .rls _ :: ds, xs, ns, r, e => by unfold allInt at e; cases e
  | .loc _ :: ds, xs, ns, r, e => by unfold allInt at e; cases e
theorem intsD_of {K : PySem.W.Frag} {ι : List Addr} {H : Hp} {S : Store} {d : D} {x : V} {ns : List Int} (sr : SR K ι S H) (r : Rep K ι H d x) (e : intsD d S = some ns) : ∃ a, x = .ref a ∧ SqL K H a (ns.map V.int) := by
  unfold intsD at e
  split at e
  · rename_i l
    split at e
    · rename_i es e1
      obtain ⟨a, ys, rfl, _, q, r2⟩ := rep_loc_lst sr r e1
      have := allInt_of r2 e
      subst this
      exact ⟨a, rfl, SqL.of q⟩
    · cases e
  · cases e
theorem sortI_of {xs ys : List Int} (p : ys.Perm xs) (s : ys.Pairwise (· ≤ ·)) : ys = sortI xs := by
  have q : (sortI xs).Perm xs := List.mergeSort_perm xs _
  have t : (sortI xs).Pairwise (fun a b => decide (a ≤ b) = true) := List.pairwise_mergeSort (fun a b c h1 h2 => by simp at *; omega) (fun a b => by simp; omega) xs
  exact List.Perm.eq_of_pairwise (le := (· ≤ ·)) (fun a b _ _ h1 h2 => Int.le_antisymm h1 h2) s (t.imp fun h => of_decide_eq_true h) (p.trans q.symm)
theorem reps_ints {K : PySem.W.Frag} {ι : List Addr} {H : Hp} : ∀ ns : List Int, Reps K ι H (ns.map .int) (ns.map V.int)
  | [] => Reps.nil
  | n :: ns => Reps.cons (to_int n) (reps_ints ns)
theorem pr_sorted : CallR X (.builtin "sorted") (PrS X.K .sorted) := by
  intro pins s σ H xs us Q I r h
  obtain ⟨ι, S, ds, sr, rr, g⟩ := h
  unfold primD at g
  dsimp only at g
  unfold pSorted at g
  split at g
  all_goals first | exact (got_bad g).elim | skip
  rename_i d
  split at g
  · rename_i ns e
    obtain ⟨x, rfl, r1⟩ := reps1 rr
    obtain ⟨a, rfl, q⟩ := intsD_of sr r1 e
    refine cr_sortedI pins s σ H _ us Q I r ⟨a, ns, rfl, q, fun ns' p hp hs hH => ?_⟩
    rw [sortI_of hp hs]
    exact got_new g sr (reps_ints _) p hH
  · exact (got_bad g).elim
theorem pr_sum (hc : X.calm = true) : CallR X (.builtin "sum") (PrS X.K .sum) := by
  intro pins s σ H xs us Q I r h
  obtain ⟨ι, S, ds, sr, rr, g⟩ := h
  unfold primD at g
  dsimp only at g
  unfold pSum at g
  split at g
  all_goals first | exact (got_bad g).elim | skip
  rename_i d
  split at g
  · rename_i ns e
    obtain ⟨x, rfl, r1⟩ := reps1 rr
    obtain ⟨a, rfl, q⟩ := intsD_of sr r1 e
    exact cr_sum hc pins s σ H _ us Q I r ⟨a, ns, rfl, q, got_val g sr (to_int _)⟩
  · exact (got_bad g).elim

/-! ### isinstance -/
def tyN : Ty → String
  | .bool => "bool" | .int => "int" | .str => "str" | .tuple => "tuple" | .list => "list"
def kdN : Kd → String
  | .non => "NoneType" | .bl => "bool" | .int => "int" | .str => "str" | .tup => "tuple" | .lst => "list"
theorem ty_of {K : PySem.W.Frag} {ι : List Addr} {H : Hp} {S : Store} {d : D} {v : V} (s : SR K ι S H) (r : Rep K ι H d v) : TyX K H v (.type (kdN (kdD d))) := by
  cases d with
  | non => rw [rep_non r]; exact .base .non
  | bl b => rw [rep_bl r]; exact .base (.bl b)
  | int b => rw [rep_int r]; exact .base (.int b)
  | str b => rw [rep_str r]; exact .base (.str b)
  | tup b =>
    obtain ⟨a, xs, rfl, q, _⟩ := rep_tup r
    rcases q with (h | ⟨o, h⟩) | ⟨o, its, n, e, c, _⟩
    · exact .base (.tup h)
    · exact .fTuple h
    · exact .kTuple e c
  | rls b =>
    obtain ⟨a, xs, rfl, q, _⟩ := rep_rls r
    rcases q with ⟨o, h⟩ | ⟨o, its, n, e, c, _⟩
    · exact .base (.frz h)
    · exact .kList e c
  | loc l =>
    obtain ⟨a, rfl, e⟩ := rep_loc r
    obtain ⟨xs, h⟩ := s.mem (List.mem_of_getElem? e)
    exact .base (.lst h)
theorem kit_isK (t : Ty) (k : Kd) : kitB (kdN k) (tyN t) = some (isK t k) := by
  cases t <;> cases k <;> decide +kernel
theorem kit_is {t : Ty} {d : D} {b : Bool} (h : isD t d = some b) : kitB (kdN (kdD d)) (tyN t) = some b := by
  unfold isD at h
  rw [kit_isK]
  exact h

/-! ### methods of lists -/
def MtS (K : PySem.W.Frag) (m : Mt) : V → List V → Hp → VK → Prop := fun x xs H Q => ∃ ι S d ds, SR K ι S H ∧ Rep K ι H d x ∧ Reps K ι H ds xs ∧ Got K ι H (methD m d ds S) (Rep K) Q
theorem mt_app : MtR X "list.append" (MtS X.K .append) := by
  intro pins s σ H x xs v us Q I rx r h
  obtain ⟨ι, S, d, ds, sr, rd, rr, g⟩ := h
  unfold methD at g
  dsimp only at g
  unfold mApp at g
  split at g
  all_goals first | exact (got_bad g).elim | skip
  rename_i l e
  split at g
  · rename_i zs ez
    rcases got_ite g with ⟨hl, g⟩ | ⟨_, g⟩
    · obtain ⟨y, rfl, r1⟩ := reps1 rr
      obtain ⟨a, ys, rfl, ea, q, r2⟩ := rep_loc_lst sr rd ez
      rw [line_eq, r2.len] at hl
      exact mt_append pins s σ H _ _ v us Q I rx r ⟨a, ys, y, rfl, rfl, q, hl, got_set g sr ea q (r2.append (.cons r1 .nil)) to_non⟩
    · exact (got_bad g).elim
  · exact (got_bad g).elim
theorem mt_rev : MtR X "list.reverse" (MtS X.K .reverse) := by
  intro pins s σ H x xs v us Q I rx r h
  obtain ⟨ι, S, d, ds, sr, rd, rr, g⟩ := h
  unfold methD at g
  dsimp only at g
  unfold mRev at g
  split at g
  all_goals first | exact (got_bad g).elim | skip
  rename_i l
  split at g
  · rename_i zs ez
    obtain rfl := rr.unnil
    obtain ⟨a, ys, rfl, ea, q, r2⟩ := rep_loc_lst sr rd ez
    exact mt_reverse pins s σ H _ _ v us Q I rx r ⟨a, ys, rfl, rfl, q, got_set g sr ea q r2.reverse to_non⟩
  · exact (got_bad g).elim
theorem ixN_range {n : Nat} {i : Int} {j : Nat} (h : ixN n i = some j) (hn : n ≤ sizeLine) : -(2 ^ 63) ≤ i ∧ i < 2 ^ 63 ∧ seqIndex? i n = some j := by
  obtain ⟨h1, h2, h3, h4⟩ := ixN_seq h
  rw [sizeLine_eq] at hn
  exact ⟨by omega, by omega, h1⟩
theorem mt_popS : MtR X "list.pop" (MtS X.K .pop) := by
  intro pins s σ H x xs v us Q I rx r h
  obtain ⟨ι, S, d, ds, sr, rd, rr, g⟩ := h
  unfold methD at g
  dsimp only at g
  unfold mPop at g
  split at g
  all_goals first | exact (got_bad g).elim | skip
  · rename_i l
    split at g
    · rename_i zs ez
      split at g
      · rename_i d ed
        obtain rfl := rr.unnil
        obtain ⟨a, ys, rfl, ea, q, r2⟩ := rep_loc_lst sr rd ez
        rw [r2.len] at ed
        obtain ⟨y, ey, ry⟩ := r2.get ed
        exact mt_pop pins s σ H _ _ v us Q I rx r ⟨a, ys, y, rfl, rfl, q, ey, got_set g sr ea q r2.dropLast ry⟩
      · exact (got_bad g).elim
    · exact (got_bad g).elim
  · rename_i l i
    split at g
    · rename_i zs ez
      split at g
      · rename_i k ek
        split at g
        · rename_i d ed
          obtain ⟨y, rfl, r1⟩ := reps1 rr
          obtain rfl := rep_int r1
          obtain ⟨a, ys, rfl, ea, q, r2⟩ := rep_loc_lst sr rd ez
          obtain ⟨y, ey, ry⟩ := r2.get ed
          rw [r2.len] at ek
          obtain ⟨h1, h2, h3⟩ := ixN_range ek (I.lstM q).1
          exact mt_popAt pins s σ H _ _ v us Q I rx r ⟨a, ys, i, k, y, rfl, rfl, q, h1, h2, h3, ey, got_set g sr ea q (r2.eraseIdx k) ry⟩
        · exact (got_bad g).elim
      · exact (got_bad g).elim
    · exact (got_bad g).elim

/-! ### subscripts, slices, stores -/
theorem ix_S : IxR X (OpS X.K idxD) := by
  intro value slice pins s σ H x y v u Q I rx ry h hs
  obtain ⟨ι, S, a, b, sr, ra, rb, g⟩ := h
  unfold idxD at g
  split at g
  · rename_i ds i e
    unfold okV at g
    split at g
    · rename_i d ed
      obtain rfl := rep_int rb
      obtain ⟨p, xs, rfl, r, hh⟩ := seq_of sr ra e
      obtain ⟨w, ew, rw_⟩ := r.atI ed
      rcases hh with ⟨hL, _⟩ | ⟨hT, _⟩
      · exact ix_list value slice pins s σ H _ _ v u Q I rx ry ⟨p, xs, i, w, rfl, rfl, hL, ew, got_val g sr rw_⟩ hs
      · exact ix_tup value slice pins s σ H _ _ v u Q I rx ry ⟨p, xs, i, w, rfl, rfl, hT, ew, got_val g sr rw_⟩ hs
    · exact (got_bad g).elim
  · exact (got_bad g).elim
/-- o[i], by values: lists -/
theorem get_S : PGet X fun x y H Q => ∃ ι S a b, SR X.K ι S H ∧ Rep X.K ι H a x ∧ Rep X.K ι H b y ∧ (∃ l, a = .loc l) ∧ Got X.K ι H (idxD a b S) (Rep X.K) Q := by
  intro pins s σ H x y v u Q I rx ry h
  obtain ⟨ι, S, a, b, sr, ra, rb, ⟨l, rfl⟩, g⟩ := h
  unfold idxD at g
  split at g
  · rename_i ds i e
    unfold okV at g
    split at g
    · rename_i d ed
      obtain rfl := rep_int rb
      obtain ⟨p, xs, rfl, r, hh⟩ := seq_of sr ra e
      obtain ⟨w, ew, rw_⟩ := r.atI ed
      have hL : SqL X.K H p xs := by
        rcases hh with ⟨hL, _⟩ | ⟨_, es, z⟩
        · exact hL
        · cases z
      cases rx
      obtain ⟨t, rfl⟩ := ry
      obtain ⟨its, rv, pl, hz⟩ := I.list hL
      obtain ⟨j, h1, h2, h3, h4, h5⟩ := atI_get ew
      obtain ⟨z, ez, rz⟩ := rv.get h2
      have hlen := rv.length
      have hline := line63
      have fin : EP X pins σ Q z s := ⟨w, H, I, rz, got_val g sr rw_⟩
      by_cases h0 : 0 ≤ i
      · have hj : i.toNat = j := by
          rw [seqIndex_of h0 h5] at h1
          exact Option.some.inj h1
        refine wpAny_getItem_list pl.isList h0 (by omega) ?_ fin
        rw [hj]
        simpa using ez
      · have hj : (i + (its.toArray.size : Int)).toNat = j := by
          rw [seqIndex_neg (by omega) h4] at h1
          rw [List.size_toArray, ← hlen]
          exact Option.some.inj h1
        refine wpAny_getItem_list_neg pl.isList (by omega) (by rw [List.size_toArray, ← hlen]; exact h4) (by omega) ?_ fin
        rw [hj]
        simpa using ez
    · exact (got_bad g).elim
  · exact (got_bad g).elim
def SlS (K : PySem.W.Frag) : V → Option Int → Option Int → Hp → VK → Prop := fun x lo hi H Q => ∃ ι S d, SR K ι S H ∧ Rep K ι H d x ∧ Got K ι H (slcD d lo hi S) (Rep K) Q
theorem cut_whole {α : Type} {xs : List α} {a b : Nat} (h1 : a = 0) (h2 : b = xs.length) : (xs.drop a).take (b - a) = xs := by
  subst h1 h2
  simp
theorem sl_S : SlR X (SlS X.K) := by
  intro pins s σ H x v vl vu lo hi sl Q I rx hs pl pu h
  obtain ⟨ι, S, d, sr, rd, g⟩ := h
  unfold slcD at g
  split at g
  · obtain ⟨a, xs, rfl, q, r⟩ := rep_tup rd
    refine sl_tupA pins s σ H _ v vl vu lo hi sl Q I rx hs pl pu ⟨a, xs, rfl, q, fun hw => got_val g sr ?_, fun _ => got_tup g sr (r.cut lo hi)⟩
    have r2 := r.cut lo hi
    unfold cutV at r2
    rw [cut_whole hw.1 hw.2] at r2
    exact rep_tupI q r2
  · obtain ⟨a, xs, rfl, q, r⟩ := rep_rls rd
    exact sl_list pins s σ H _ v vl vu lo hi sl Q I rx hs pl pu ⟨a, xs, rfl, q.seq, got_new g sr (r.cut lo hi)⟩
  · split at g
    · rename_i ds e
      obtain ⟨a, xs, rfl, _, q, r⟩ := rep_loc_lst sr rd e
      exact sl_list pins s σ H _ v vl vu lo hi sl Q I rx hs pl pu ⟨a, xs, rfl, SqL.of q, got_new g sr (r.cut lo hi)⟩
    · exact (got_bad g).elim
  · exact (got_bad g).elim
def SetS (K : PySem.W.Frag) : TSet := fun o i v H Q => ∃ ι S a b d, SR K ι S H ∧ Rep K ι H a o ∧ Rep K ι H b i ∧ Rep K ι H d v ∧ Got K ι H (setD a b d S) (fun _ _ _ (_ : Unit) => True) (fun _ H' => Q H')
theorem set_S : PSet X (SetS X.K) := by
  intro pins s σ H o i v ov iv u Q I ro ri rv h
  obtain ⟨ι, S, a, b, d, sr, ra, rb, rd, g⟩ := h
  unfold setD at g
  split at g
  · rename_i l k
    split at g
    · rename_i ds e
      split at g
      · rename_i j ej
        obtain rfl := rep_int rb
        obtain ⟨p, xs, rfl, ea, q, r⟩ := rep_loc_lst sr ra e
        rw [r.len] at ej
        exact set_list pins s σ H _ _ v ov iv u Q I ro ri rv ⟨p, xs, k, j, rfl, rfl, q, ej, got_ok g ι _ () (step_set sr ea q) (sr.set ea q (r.set rd j)) True.intro⟩
      · exact (got_bad g).elim
    · exact (got_bad g).elim
  · exact (got_bad g).elim
end
end
end SX
namespace SX
open PySem PySem.Spec PyProof.Rows L2

/-! ### the checker -/
structure Cn where
  N : List Str
  sc : Scope
  bl : List Str
  nf : Nat
  fn : Nat → Str
  kw : List (Nat × Nat × List Str × List Nat)
  co : List (Str × Cst)
  g : Bool
def visB (sc : Scope) (x : Str) : Bool := match sc.names.lookup x with
  | some .local => true
  | some .cell => true
  | some .free => true
  | _ => false
def locB (sc : Scope) (x : Str) : Bool := match sc.names.lookup x with
  | some .local => true
  | some .cell => true
  | _ => false
def glB (sc : Scope) (x : Str) : Bool := match sc.names.lookup x with
  | some .globalImplicit => !(x == ("__debug__" : Str))
  | _ => false
def blB (c : Cn) (x : Str) : Bool := glB c.sc x && c.bl.contains x && !(x == ("__name__" : Str))
def prN : Pr → Str
  | .abs => "abs" | .int => "int" | .len => "len" | .max => "max" | .min => "min" | .tuple => "tuple" | .list => "list" | .any => "any" | .sorted => "sorted" | .sum => "sum"
def mtN : Mt → Str
  | .append => "append" | .pop => "pop" | .reverse => "reverse"
def noStar : Expr → Bool
  | .Starred _ _ => false
  | _ => true
/-- no call without arguments (it may be super()) -/
def noCall0 : Expr → Bool
  | .Call (.Name _ _) [] [] _ => false
  | _ => true
def kwNames : List Keyword → Option (List Str)
  | [] => some []
  | ⟨some n, _, _⟩ :: ks => (kwNames ks).map (n :: ·)
  | ⟨none, _, _⟩ :: _ => none
def notList : Expr → Bool
  | .List _ _ => false
  | _ => true
/-- the names of a generator expression's scope -/
def genB (N : List Str) (sc scope : Scope) (own : List (Str × Nat)) : Bool :=
  decide (scope.kind = .function) && !scope.isCoroutine && decide (scope.names.lookup (".0" : Str) = some NameKind.local) && !(N.contains (".0" : Str)) && scope.names.all (fun y => decide (y.2 ≠ .cell)) &&
    scope.names.all (fun y => decide (scope.names.lookup y.1 = some y.2)) && own.all (fun p => decide (N[p.2]? = some p.1)) &&
    scope.names.all (fun y => !(decide (y.2 = .free)) || decide (sc.names.lookup y.1 = some .cell) || decide (sc.names.lookup y.1 = some .free)) &&
    scope.names.all (fun y => !(decide (y.2 = .local)) || (own.map (·.1)).contains y.1 || !(N.contains y.1))
def qlN (all : Bool) : Str := if all = true then "all" else "any"
def inCtx (c : Cn) (sc : Scope) : Cn := { c with sc := sc, g := false }
mutual
def ckT (c : Cn) : Tg → Expr → Bool
  | .nm i, ex => match ex with
    | .Name x _ => decide (c.N[i]? = some x) && locB c.sc x
    | _ => false
  | .tp ts, ex => match ex with
    | .Tuple es _ _ => ckTs c ts es
    | _ => false
def ckTs (c : Cn) : Tgs → List Expr → Bool
  | .nil, [] => true
  | .cons t ts, e :: es => ckT c t e && noStar e && ckTs c ts es
  | _, _ => false
end
mutual
def slotsT : Tg → List Nat
  | .nm i => [i]
  | .tp ts => slotsTs ts
def slotsTs : Tgs → List Nat
  | .nil => []
  | .cons t ts => slotsT t ++ slotsTs ts
end
def ownP (N : List Str) (own : List Nat) : List (Str × Nat) := own.map fun i => (N.getD i "", i)
mutual
def ckE (c : Cn) : E → Expr → Bool
  | .var i, ex => match ex with
    | .Name x _ => decide (c.N[i]? = some x) && visB c.sc x && !(x == ("__debug__" : Str)) && !(x == ("__classdict__" : Str))
    | _ => false
  | .cint i, ex => match ex with
    | .Constant (.int j) _ _ => decide (i = j)
    | _ => false
  | .cbl b, ex => match ex with
    | .Constant (.bool d) _ _ => decide (b = d)
    | _ => false
  | .cnon, ex => match ex with
    | .Constant .none _ _ => true
    | _ => false
  | .cstr x, ex => match ex with
    | .Constant (.str y) _ _ => decide (x = y)
    | _ => false
  | .tup es, ex => match ex with
    | .Tuple fs _ _ => ckEs c es fs
    | _ => false
  | .lst es, ex => match ex with
    | .List fs _ => ckEs c es fs
    | _ => false
  | .bin op a b, ex => match ex with
    | .BinOp l o r _ => decide (o = boOp op) && ckE c a l && ckE c b r
    | _ => false
  | .neg a, ex => match ex with
    | .UnaryOp .USub x _ => ckE c a x
    | _ => false
  | .not a, ex => match ex with
    | .UnaryOp .Not x _ => ckE c a x
    | _ => false
  | .and es, ex => match ex with
    | .BoolOp .And fs _ => ckEs c es fs
    | _ => false
  | .or es, ex => match ex with
    | .BoolOp .Or fs _ => ckEs c es fs
    | _ => false
  | .cmp op a b, ex => match ex with
    | .Compare l [o] [r] _ => decide (o = coOp op) && ckE c a l && ckE c b r
    | _ => false
  | .ite k a b, ex => match ex with
    | .IfExp t x y _ => ckE c k t && ckE c a x && ckE c b y
    | _ => false
  | .idx a b, ex => match ex with
    | .Subscript v s _ => ckE c a v && ckE c b s
    | _ => false
  | .slc a lo hi, ex => match ex with
    | .Subscript v (.Slice l h none _) _ => ckE c a v && (match l with
        | none => isAbs lo
        | some l => ckE c lo l) && (match h with
        | none => isAbs hi
        | some h => ckE c hi h)
    | _ => false
  | .absent, _ => false
  | .call f es, ex => match ex with
    | .Call (.Name x _) fs [] _ => decide (f < c.nf) && decide (c.fn f = x) && glB c.sc x && ckEs c es fs
    | _ => false
  | .callk f es ks perm, ex => match ex with
    | .Call (.Name x _) fs kws _ => decide (f < c.nf) && decide (c.fn f = x) && glB c.sc x && (match kwNames kws with
        | some ns => decide ((f, fs.length, ns, perm) ∈ c.kw)
        | none => false) && ckEs c es fs && ckKs c ks kws
    | _ => false
  | .prim p es, ex => match ex with
    | .Call (.Name x _) (e :: fs) [] _ => decide (x = prN p) && blB c x && ckEs c es (e :: fs)
    | _ => false
  | .isin t a, ex => match ex with
    | .Call (.Name x _) [e, .Name y _] [] _ => decide (x = "isinstance") && blB c x && decide (y = (tyN t : Str)) && blB c y && ckE c a e
    | _ => false
  | .meth m o es, ex => match ex with
    | .Call (.Attribute e n p) fs [] q => decide (n = mtN m) && ckE c o e && ckEs c es fs && noCall0 e && (p.endLine == q.line) && decide (fs.length < 29)
    | _ => false
  | .lc elt t it cs own, ex => match ex with
    | .ListComp el [⟨tg, iter, ifs, as⟩] scope _ => decide (as = 0) && ckIt c it tg iter && blkC c.N c.sc scope (ownP c.N own) && (slotsT t).all (fun i => own.contains i) && own.all (fun i => locB scope (c.N.getD i "")) &&
        ckT { c with sc := relS scope c.sc } t tg && ckEs { c with sc := relS scope c.sc } cs ifs && decide (ifs.length ≤ 1) && ckE { c with sc := relS scope c.sc } elt el
    | _ => false
  | .gcon x k, ex => match ex with
    | .Name y _ => decide (x = y) && glB c.sc x && decide ((x, k) ∈ c.co)
    | _ => false
  | .chain op op' a b d, ex => match ex with
    | .Compare l [o, o'] [r, r'] _ => decide (o = coOp op) && decide (o' = coOp op') && ckE c a l && ckE c b r && ckE c d r'
    | _ => false
  | .tupG elt t it cs own, ex => match ex with
    | .Call (.Name x _) [.GeneratorExp el [⟨tg, iter, ifs, as⟩] scope _] [] _ => decide (x = "tuple") && blB c x && decide (as = 0) && c.g && notList iter && ckIt c it tg iter && genB c.N c.sc scope (ownP c.N own) && (slotsT t).all (fun i => own.contains i) &&
        own.all (fun i => decide (scope.names.lookup (c.N.getD i "") = some .local)) && ckT (inCtx c scope) t tg && ckEs (inCtx c scope) cs ifs && decide (ifs.length ≤ 1) && ckE (inCtx c scope) elt el
    | _ => false
  | .qual all elt t it cs own, ex => match ex with
    | .Call (.Name x _) [.GeneratorExp el [⟨tg, iter, ifs, as⟩] scope _] [] _ => decide (x = qlN all) && blB c x && decide (as = 0) && c.g && notList iter && ckIt c it tg iter && genB c.N c.sc scope (ownP c.N own) && (slotsT t).all (fun i => own.contains i) &&
        own.all (fun i => decide (scope.names.lookup (c.N.getD i "") = some .local)) && ckT (inCtx c scope) t tg && ckEs (inCtx c scope) cs ifs && decide (ifs.length ≤ 1) && ckE (inCtx c scope) elt el
    | _ => false
  | .sumG elt t it cs own, ex => match ex with
    | .Call (.Name x _) [.GeneratorExp el [⟨tg, iter, ifs, as⟩] scope _] [] _ => decide (x = "sum") && blB c x && decide (as = 0) && c.g && notList iter && ckIt c it tg iter && genB c.N c.sc scope (ownP c.N own) && (slotsT t).all (fun i => own.contains i) &&
        own.all (fun i => decide (scope.names.lookup (c.N.getD i "") = some .local)) && ckT (inCtx c scope) t tg && ckEs (inCtx c scope) cs ifs && decide (ifs.length ≤ 1) && ckE (inCtx c scope) elt el
    | _ => false
  | .lc2 elt t it cs own t1 it1 cs1 own1, ex => match ex with
    | .ListComp el [⟨tg, iter, ifs, as⟩, ⟨tg1, iter1, ifs1, as1⟩] scope _ => decide (as = 0) && decide (as1 = 0) && ckIt c it tg iter && blkC c.N c.sc scope (ownP c.N own) && (slotsT t).all (fun i => own.contains i) && own.all (fun i => locB scope (c.N.getD i "")) &&
        (slotsT t1).all (fun i => own1.contains i) && own1.all (fun i => own.contains i) &&
        ckT { c with sc := relS scope c.sc } t tg && ckEs { c with sc := relS scope c.sc } cs ifs && decide (ifs.length ≤ 1) && ckIt { c with sc := relS scope c.sc } it1 tg1 iter1 && ckT { c with sc := relS scope c.sc } t1 tg1 &&
        ckEs { c with sc := relS scope c.sc } cs1 ifs1 && decide (ifs1.length ≤ 1) && ckE { c with sc := relS scope c.sc } elt el
    | _ => false
def ckEs (c : Cn) : Es → List Expr → Bool
  | .nil, [] => true
  | .cons e es, x :: xs => ckE c e x && ckEs c es xs
  | _, _ => false
def ckKs (c : Cn) : Es → List Keyword → Bool
  | .nil, [] => true
  | .cons e es, ⟨some _, x, _⟩ :: xs => ckE c e x && ckKs c es xs
  | _, _ => false
def ckIt (c : Cn) : It → Expr → Expr → Bool
  | .seq e, _, ex => ckE c e ex
  | .range1 e, _, ex => match ex with
    | .Call (.Name x _) [a] [] _ => decide (x = "range") && blB c x && ckE c e a
    | _ => false
  | .range2 e f, _, ex => match ex with
    | .Call (.Name x _) [a, b] [] _ => decide (x = "range") && blB c x && ckE c e a && ckE c f b
    | _ => false
  | .enum e, tg, ex => match tg with
    | .Tuple _ _ _ => match ex with
      | .Call (.Name x _) [a] [] _ => decide (x = "enumerate") && blB c x && ckE c e a
      | _ => false
    | _ => false
  | .zip e f, tg, ex => match tg with
    | .Tuple _ _ _ => match ex with
      | .Call (.Name x _) [a, b] [] _ => decide (x = "zip") && blB c x && ckE c e a && ckE c f b
      | _ => false
    | _ => false
end

/-! ### what the checker's forms are not -/
section
variable {c : Cn} {e : E} {ex : Expr}
theorem ck_star (h : ckE c e ex = true) : noStar ex = true := by
  cases ex <;> first | rfl | (cases e <;> simp [ckE] at h)
theorem star_each {x : Expr} {xs : List Expr} {env : PySem.Env} (h : noStar x = true) : starEach (x :: xs) env = (false, eval x env) :: starEach xs env := by
  cases x <;> first | rfl | cases h
theorem asg_each {x : Expr} {xs : List Expr} {env : PySem.Env} (h : noStar x = true) : assignEach (x :: xs) env = (false, assign x env) :: assignEach xs env := by
  cases x <;> first | rfl | cases h
theorem ck_plainIx (h : ckE c e ex = true) : PlainIx ex := by
  intro o i
  cases ex <;> first | rfl | (cases e <;> simp [ckE] at h)
theorem ck_fold (h : ckE c e ex = true) (env : PySem.Env) : ∀ x, foldedSetIterable ex env x = pure x := by
  intro x
  cases ex <;> first | rfl | (cases e <;> simp [ckE] at h)
theorem ckIt_fold {it : It} {tg : Expr} (h : ckIt c it tg ex = true) (env : PySem.Env) : ∀ x, foldedSetIterable ex env x = pure x := by
  cases it with
  | seq e => unfold ckIt at h; exact ck_fold h env
  | range1 e =>
    intro x
    unfold ckIt at h
    cases ex <;> first | rfl | simp at h
  | range2 e f =>
    intro x
    unfold ckIt at h
    cases ex <;> first | rfl | simp at h
  | enum e =>
    intro x
    unfold ckIt at h
    cases tg <;> first | (simp at h; done) | skip
    cases ex <;> first | rfl | simp at h
  | zip e f =>
    intro x
    unfold ckIt at h
    cases tg <;> first | (simp at h; done) | skip
    cases ex <;> first | rfl | simp at h
theorem ckIt_gen {it : It} {tg : Expr} (h : ckIt c it tg ex = true) (hl : notList ex = true) (env : PySem.Env) : ∀ x, genFold ex env x = pure x := by
  intro x
  have := ckIt_fold h env x
  cases ex <;> first | exact this | cases hl
theorem ck_marks (h : ckE c e ex = true) (op : CmpOp) : behindInMarks op ex = false := by
  cases ex <;> first | rfl | (cases e <;> simp [ckE] at h)
theorem base_of (h : noCall0 ex = true) (f : Str) (env : PySem.Env) : attributeBase ex f env (eval ex env) = eval ex env := by
  cases ex with
  | Call g as ks p =>
    cases g with
    | Name x q =>
      cases as with
      | nil =>
        cases ks with
        | nil => cases h
        | cons _ _ => rfl
      | cons _ _ => rfl
    | _ => rfl
  | _ => rfl
theorem back_plain : ∀ {es : Es} {fs : List Expr} {pos : Pos} {env : PySem.Env}, ckEs c es fs = true → (backTo pos (starEach fs env)).any (·.1) = false
  | .nil, [], _, _, _ => rfl
  | .nil, _ :: _, _, _, h => by simp [ckEs] at h
  | .cons _ _, [], _, _, h => by simp [ckEs] at h
  | .cons e es, x :: xs, pos, env, h => by
    unfold ckEs at h
    rw [Bool.and_eq_true] at h
    rw [star_each (ck_star h.1)]
    have ih := back_plain (es := es) (fs := xs) (pos := pos) (env := env) h.2
    unfold backTo at ih ⊢
    rw [List.map_cons, List.any_cons, ih]
    rfl
theorem vis_of {sc : Scope} {x : Str} (h : visB sc x = true) : Vis sc x := by
  unfold visB at h
  split at h
  · rename_i e; exact .inl e
  · rename_i e; exact .inr (.inl e)
  · rename_i e; exact .inr (.inr e)
  · cases h
theorem loc_of {sc : Scope} {x : Str} (h : locB sc x = true) : Loc sc x := by
  unfold locB at h
  split at h
  · rename_i e; exact .inl e
  · rename_i e; exact .inr e
  · cases h
theorem gl_of {sc : Scope} {x : Str} (h : glB sc x = true) : sc.names.lookup x = some .globalImplicit ∧ (x == ("__debug__" : Str)) = false := by
  unfold glB at h
  split at h
  · rename_i e
    refine ⟨e, ?_⟩
    simpa using h
  · cases h
end
end SX
namespace SX
open PySem PySem.Spec PyProof.Rows L2
noncomputable section
open Classical
variable [Tabs]

/-! ### promises -/
def GSp (K : PySem.W.Frag) (n : Nat) (φ : List D → Store → Res D) : Sp := fun vs H Q _ => vs.length = n ∧ ∃ ι S ds, SR K ι S H ∧ Reps K ι H ds vs ∧ Got K ι H (φ ds S) (Rep K) Q
def permV {α : Type} (perm : List Nat) (ds : List α) : List α := perm.filterMap fun i => ds[i]?
structure KB (fd : FuncData) (ps : List Str) (n : Nat) (ks : List Str) (perm : List Nat) : Prop where
  to : ∀ us ws : List Value, us.length = n → ws.length = ks.length → bindArgs fd ⟨us, ks.zip ws⟩ = pure (ps.zip (permV perm (us ++ ws)))
  lt : ∀ i ∈ perm, i < n + ks.length
structure FnC (X : Cx) (k : Nat) (name : Str) (φ : List D → Store → Res D) (kw : List (Nat × List Str × List Nat)) : Prop where
  ex : ∃ fa fd ps, X.mg name = some (.ref fa) ∧ PySem.W.keepIn X.K (.ref fa) = true ∧ FnOk X.prog X.w X.K X.mg X.base CX0 k fa fd ps (GSp X.K ps.length φ) ∧ L2.Binds X.K fd ps [] ∧ (∀ q ∈ kw, KB fd ps q.1 q.2.1 q.2.2) ∧ ∀ ds S d S', φ ds S = .ok d S' → ds.length = ps.length
structure ConOk (K : PySem.W.Frag) (mg : Str → Option Value) (x : Str) (k : Cst) : Prop where
  ex : ∃ v u, mg x = some u ∧ RelV v u ∧ ∀ ι H, Rep K ι H k.toD v
structure Fits (c : Cn) (F : Fns) (X : Cx) : Prop where
  calm : X.calm = true
  N : X.N = c.N
  nd : c.N.Nodup
  sc : X.env.scope = c.sc
  un : X.A.units + 65 < cLine
  xe : X.xe = fun _ _ => False
  bl : ∀ x, c.bl.contains x = true → X.mg x = none
  co : ∀ x k, (x, k) ∈ c.co → ConOk X.K X.mg x k
  gx : c.g = true → ∃ cA P, X.env.code = .ref cA ∧ GxR.TabB X.base X.mg cA P ∧ (cA, P) ∈ Tabs.cs
  rm : ∃ k, Room k X.A ∧ (c.g = true → Room (k + 6) X.A) ∧ ∀ f, f < c.nf → FnC X k (c.fn f) (F f) ((c.kw.filter fun q => q.1 == f).map (·.2))
theorem Fits.fns {c : Cn} {F : Fns} {X : Cx} (f : Fits c F X) (g : Nat) (h : g < c.nf) : ∃ fa fd ps k, X.mg (c.fn g) = some (.ref fa) ∧ PySem.W.keepIn X.K (.ref fa) = true ∧ FnOk X.prog X.w X.K X.mg X.base CX0 k fa fd ps (GSp X.K ps.length (F g)) ∧ Room k X.A ∧ L2.Binds X.K fd ps [] ∧
    (∀ q ∈ ((c.kw.filter fun q => q.1 == g).map (·.2)), KB fd ps q.1 q.2.1 q.2.2) ∧ ∀ ds S d S', F g ds S = .ok d S' → ds.length = ps.length := by
  obtain ⟨k, h1, _, h2⟩ := f.rm
  obtain ⟨fa, fd, ps, a, b, c, d, e, z⟩ := (h2 g h).ex
  exact ⟨fa, fd, ps, k, a, b, c, h1, d, e, z⟩
def RdE (K : PySem.W.Frag) (F : Fns) (e : E) : TE := fun σ H Q => ∃ ι env S, REnv K ι H env σ ∧ SR K ι S H ∧ Got K ι H (evE F e env S) (Rep K) Q
def RdEs (K : PySem.W.Frag) (F : Fns) (es : Es) : TA := fun σ H Q => ∃ ι env S, REnv K ι H env σ ∧ SR K ι S H ∧ Got K ι H (evEs F es env S) (Reps K) Q
def RdB (K : PySem.W.Frag) (f : Env → Store → Res Bool) : TT := fun σ H Q => ∃ ι env S, REnv K ι H env σ ∧ SR K ι S H ∧ Got K ι H (f env S) (fun _ _ a b => a = b) Q
def RdV (K : PySem.W.Frag) (f : Env → Store → Res D) : TE := fun σ H Q => ∃ ι env S, REnv K ι H env σ ∧ SR K ι S H ∧ Got K ι H (f env S) (Rep K) Q
theorem PE.imp {X : Cx} {e : Expr} {t t' : TE} (h : PE X e t) (w : ∀ σ H Q, t' σ H Q → t σ H Q) : PE X e t' := ⟨fun pins s σ H Q I q => h.run pins s σ H Q I (w σ H Q q)⟩
theorem PT.imp {X : Cx} {e : Expr} {t t' : TT} (h : PT X e t) (w : ∀ σ H Q, t' σ H Q → t σ H Q) : PT X e t' := ⟨fun pins s σ H Q I q => h.run pins s σ H Q I (w σ H Q q)⟩
theorem PW.imp {X : Cx} {e : Expr} {t t' : TT} (h : PW X e t) (w : ∀ σ H Q, t' σ H Q → t σ H Q) : PW X e t' := ⟨fun wh pins s σ H Q I q => h.run wh pins s σ H Q I (w σ H Q q)⟩
theorem PA.imp {X : Cx} {e : List Expr} {t t' : TA} (h : PA X e t) (w : ∀ σ H Q, t' σ H Q → t σ H Q) : PA X e t' := ⟨fun pos pins s σ H Q I q => h.run pos pins s σ H Q I (w σ H Q q)⟩
theorem PK.imp {X : Cx} {e : List Keyword} {t t' : TA} (h : PK X e t) (w : ∀ σ H Q, t' σ H Q → t σ H Q) : PK X e t' := ⟨fun pos pins s σ H Q I q => h.run pos pins s σ H Q I (w σ H Q q)⟩
theorem PS.imp {X : Cx} {e : Stmt} {t t' : TS} (h : PS X e t) (w : ∀ D σ H, t' D σ H → t D σ H) : PS X e t' := ⟨fun pins s σ H D I q => h.run pins s σ H D I (w D σ H q)⟩
theorem PSs.imp {X : Cx} {e : List Stmt} {t t' : TS} (h : PSs X e t) (w : ∀ D σ H, t' D σ H → t D σ H) : PSs X e t' := ⟨fun pins s σ H D I q => h.run pins s σ H D I (w D σ H q)⟩
theorem PI.imp {X : Cx} {g e : Expr} {t t' : TI} (h : PI X g e t) (w : ∀ σ H Q, t' σ H Q → t σ H Q) : PI X g e t' := ⟨fun pins s σ H R I q => h.run pins s σ H R I (w σ H R q)⟩

/-! ### composing -/
section
variable {K : PySem.W.Frag} {ι : List Addr} {H : Hp} {env : Env} {σ : L2.St} {S : Store} {F : Fns}
/-- an expression first -/
theorem got_E {α β : Type} {e : E} {k : D → Store → Res α} {R : List Addr → Hp → α → β → Prop} {Q : β → Hp → Prop} (re : REnv K ι H env σ) (s : SR K ι S H) (g : Got K ι H ((evE F e env S).bnd k) R Q)
    {P : VK} (h : ∀ ι1 H1 d v S1, Step ι H ι1 H1 → REnv K ι1 H1 env σ → SR K ι1 S1 H1 → Rep K ι1 H1 d v → Got K ι1 H1 (k d S1) R Q → P v H1) : RdE K F e σ H P := by
  obtain ⟨d, S1, e1, g1⟩ := got_bnd g
  exact ⟨ι, env, S, re, s, d, S1, e1, fun ι1 H1 v st s1 r => h ι1 H1 d v S1 st (re.step st) s1 r (got_step st g1)⟩
theorem got_V {α β : Type} {f : Env → Store → Res D} {k : D → Store → Res α} {R : List Addr → Hp → α → β → Prop} {Q : β → Hp → Prop} (re : REnv K ι H env σ) (s : SR K ι S H) (g : Got K ι H ((f env S).bnd k) R Q)
    {P : VK} (h : ∀ ι1 H1 d v S1, Step ι H ι1 H1 → REnv K ι1 H1 env σ → SR K ι1 S1 H1 → Rep K ι1 H1 d v → Got K ι1 H1 (k d S1) R Q → P v H1) : RdV K f σ H P := by
  obtain ⟨d, S1, e1, g1⟩ := got_bnd g
  exact ⟨ι, env, S, re, s, d, S1, e1, fun ι1 H1 v st s1 r => h ι1 H1 d v S1 st (re.step st) s1 r (got_step st g1)⟩
theorem got_Es {α β : Type} {e : Es} {k : List D → Store → Res α} {R : List Addr → Hp → α → β → Prop} {Q : β → Hp → Prop} (re : REnv K ι H env σ) (s : SR K ι S H) (g : Got K ι H ((evEs F e env S).bnd k) R Q)
    {P : List V → Hp → Prop} (h : ∀ ι1 H1 ds vs S1, Step ι H ι1 H1 → REnv K ι1 H1 env σ → SR K ι1 S1 H1 → Reps K ι1 H1 ds vs → Got K ι1 H1 (k ds S1) R Q → P vs H1) : RdEs K F e σ H P := by
  obtain ⟨d, S1, e1, g1⟩ := got_bnd g
  exact ⟨ι, env, S, re, s, d, S1, e1, fun ι1 H1 v st s1 r => h ι1 H1 d v S1 st (re.step st) s1 r (got_step st g1)⟩
theorem got_B {α β : Type} {f : Env → Store → Res Bool} {k : Bool → Store → Res α} {R : List Addr → Hp → α → β → Prop} {Q : β → Hp → Prop} (re : REnv K ι H env σ) (s : SR K ι S H) (g : Got K ι H ((f env S).bnd k) R Q)
    {P : Bool → Hp → Prop} (h : ∀ ι1 H1 b S1, Step ι H ι1 H1 → REnv K ι1 H1 env σ → SR K ι1 S1 H1 → Got K ι1 H1 (k b S1) R Q → P b H1) : RdB K f σ H P := by
  obtain ⟨d, S1, e1, g1⟩ := got_bnd g
  exact ⟨ι, env, S, re, s, d, S1, e1, fun ι1 H1 v st s1 r => by subst r; exact h ι1 H1 d S1 st (re.step st) s1 (got_step st g1)⟩
theorem bnd_id {α : Type} (r : Res α) : r.bnd (fun a S => .ok a S) = r := by cases r <;> rfl
end

/-! ### targets -/
theorem PG.imp {X : Cx} {e : Expr} {t t' : TG} (h : PG X e t) (w : ∀ v σ H Q, t' v σ H Q → t v σ H Q) : PG X e t' := ⟨fun pins s σ H v u Q I r q => h.run pins s σ H v u Q I r (w v σ H Q q)⟩
theorem PGs.imp {X : Cx} {e : List Expr} {t t' : TGs} (h : PGs X e t) (w : ∀ v σ H Q, t' v σ H Q → t v σ H Q) : PGs X e t' := ⟨fun pins s σ H v u Q I r q => h.run pins s σ H v u Q I r (w v σ H Q q)⟩
def WipeOk (sl : List Nat) (σ σ' : L2.St) : Prop := ∀ own : List Nat, (∀ i ∈ sl, i ∈ own) → L2.wipe σ' own = L2.wipe σ own
def TgS (K : PySem.W.Frag) (t : Tg) : TG := fun v σ H Q => ∃ ι S env d env', REnv K ι H env σ ∧ SR K ι S H ∧ Rep K ι H d v ∧ asgT t d S env = some env' ∧ ∀ σ', REnv K ι H env' σ' → WipeOk (slotsT t) σ σ' → Q σ' H
def TgsS (K : PySem.W.Frag) (ts : Tgs) : TGs := fun vs σ H Q => ∃ ι S env ds env', REnv K ι H env σ ∧ SR K ι S H ∧ Reps K ι H ds vs ∧ asgTs ts ds S env = some env' ∧ ∀ σ', REnv K ι H env' σ' → WipeOk (slotsTs ts) σ σ' → Q σ' H
theorem wipe_set {σ : L2.St} {i : Nat} {x : Option V} : ∀ {own : List Nat}, i ∈ own → L2.wipe (σ.set i x) own = L2.wipe σ own
  | j :: js, h => by
    unfold L2.wipe
    by_cases e : i ∈ js
    · rw [wipe_set e]
    · have hij : i = j := by
        rcases List.mem_cons.mp h with z | z
        · exact z
        · exact absurd z e
      subst hij
      have out : ∀ (vs : List Nat), i ∉ vs → L2.wipe (σ.set i x) vs = (L2.wipe σ vs).set i x := by
        intro vs
        induction vs with
        | nil => intro _; rfl
        | cons w ws ih =>
          intro hw
          rw [List.mem_cons, not_or] at hw
          unfold L2.wipe
          rw [ih hw.2, List.set_comm _ _ hw.1]
      rw [out js e, List.set_set]
theorem asg_len : ∀ {ts : Tgs} {es : List Expr} {c : Cn} {env : PySem.Env}, ckTs c ts es = true → (assignEach es env).length = es.length ∧ (assignEach es env).findIdx? (·.1) = none
  | .nil, [], _, _, _ => ⟨rfl, rfl⟩
  | .nil, _ :: _, _, _, h => by simp [ckTs] at h
  | .cons _ _, [], _, _, h => by simp [ckTs] at h
  | .cons t ts, e :: es, c, env, h => by
    unfold ckTs at h
    simp only [Bool.and_eq_true] at h
    obtain ⟨h1, h2⟩ := asg_len (env := env) h.2
    rw [asg_each h.1.2]
    refine ⟨by rw [List.length_cons, List.length_cons, h1], ?_⟩
    rw [List.findIdx?_cons]
    simp [h2]
theorem asgTs_len : ∀ {ts : Tgs} {es : List Expr} {c : Cn} {ds : List D} {S : Store} {env env' : Env}, ckTs c ts es = true → asgTs ts ds S env = some env' → ds.length = es.length
  | .nil, [], _, [], _, _, _, _, _ => rfl
  | .nil, [], _, _ :: _, _, _, _, _, e => by simp [asgTs] at e
  | .nil, _ :: _, _, _, _, _, _, h, _ => by simp [ckTs] at h
  | .cons _ _, [], _, _, _, _, _, h, _ => by simp [ckTs] at h
  | .cons _ _, _ :: _, _, [], _, _, _, _, e => by simp [asgTs] at e
  | .cons t ts, e :: es, c, d :: ds, S, env, env', h, a => by
    unfold ckTs at h
    simp only [Bool.and_eq_true] at h
    unfold asgTs at a
    split at a
    · rw [List.length_cons, List.length_cons, asgTs_len h.2 a]
    · cases a
mutual
theorem pg_T {X : Cx} {c : Cn} (hc : X.calm = true) (hN : X.N = c.N) (nd : c.N.Nodup) (hs : X.env.scope = c.sc) : ∀ (t : Tg) (ex : Expr), ckT c t ex = true → (∀ i ∈ slotsT t, ∀ x, c.N[i]? = some x → X.fn x = true ∨ X.env.scope.names.lookup x = some .local) → PG X ex (TgS X.K t)
  | .nm i, ex, h, hf => by
    unfold ckT at h
    split at h
    · rename_i x p
      rw [Bool.and_eq_true] at h
      have hi : X.N[i]? = some x := by rw [hN]; exact of_decide_eq_true h.1
      refine PG.imp (pg_name (by rw [hN]; exact nd) hi (by rw [hs]; exact loc_of h.2) (hf i (by unfold slotsT; simp) x (of_decide_eq_true h.1))) fun v σ H Q q => ?_
      obtain ⟨ι, S, env, d, env', re, sr, r, e, q⟩ := q
      unfold asgT at e
      cases e
      refine q _ (re.set r) fun own ho => ?_
      exact wipe_set (ho i (by unfold slotsT; simp))
    · cases h
  | .tp ts, ex, h, hf => by
    unfold ckT at h
    split at h
    · rename_i es k p
      obtain ⟨l1, l2⟩ := asg_len (env := X.env) h
      refine PG.imp (pg_tup hc (pgs_T hc hN nd hs ts es h (fun i hi => hf i (by unfold slotsT; exact hi))) l1 l2) fun v σ H Q q => ?_
      obtain ⟨ι, S, env, d, env', re, sr, r, e, q⟩ := q
      unfold asgT at e
      split at e
      · obtain ⟨a, xs, rfl, hq, rr⟩ := rep_tup r
        refine ⟨a, xs, rfl, hq, by rw [← rr.len, asgTs_len h e], ι, S, env, _, env', re, sr, rr, e, fun σ' r' w => q σ' r' ?_⟩
        unfold slotsT
        exact w
      · cases e
    · cases h
theorem pgs_T {X : Cx} {c : Cn} (hc : X.calm = true) (hN : X.N = c.N) (nd : c.N.Nodup) (hs : X.env.scope = c.sc) : ∀ (ts : Tgs) (es : List Expr), ckTs c ts es = true → (∀ i ∈ slotsTs ts, ∀ x, c.N[i]? = some x → X.fn x = true ∨ X.env.scope.names.lookup x = some .local) → PGs X es (TgsS X.K ts)
  | .nil, [], _, _ => by
    refine PGs.imp pgs_nil fun vs σ H Q q => ?_
    obtain ⟨ι, S, env, ds, env', re, sr, r, e, q⟩ := q
    cases ds with
    | nil =>
      unfold asgTs at e
      cases e
      exact ⟨r.unnil, q σ re fun own _ => rfl⟩
    | cons d ds => unfold asgTs at e; cases e
  | .nil, _ :: _, h, _ => by simp [ckTs] at h
  | .cons _ _, [], h, _ => by simp [ckTs] at h
  | .cons t ts, x :: es, h, hf => by
    unfold ckTs at h
    simp only [Bool.and_eq_true] at h
    refine PGs.imp (pgs_cons (pg_T hc hN nd hs t x h.1.1 (fun i hi => hf i (by unfold slotsTs; exact List.mem_append_left _ hi))) (pgs_T hc hN nd hs ts es h.2 (fun i hi => hf i (by unfold slotsTs; exact List.mem_append_right _ hi)))
      (by rw [asg_each h.1.2]; rfl)) fun vs σ H Q q => ?_
    obtain ⟨ι, S, env, ds, env', re, sr, r, e, q⟩ := q
    cases ds with
    | nil => unfold asgTs at e; cases e
    | cons d ds =>
      unfold asgTs at e
      split at e
      · rename_i env1 e1
        obtain ⟨v, w, rfl, r1, r2⟩ := r.uncons
        refine ⟨v, w, rfl, ι, S, env, d, env1, re, sr, r1, e1, fun σ1 re1 w1 => ⟨ι, S, env1, ds, env', re1, sr, r2, e, fun σ2 re2 w2 => q σ2 re2 fun own ho => ?_⟩⟩
        unfold slotsTs at ho
        rw [w2 own fun i hi => ho i (List.mem_append_right _ hi), w1 own fun i hi => ho i (List.mem_append_left _ hi)]
      · cases e
end
end
end SX
/-! enumerate(a tuple) -/
namespace PySem.EnT
open PySem PySem.W PyProof.Rows
theorem meets_new1 {v : Value} {o : Obj} {H : Heap → Prop} (B : Begins v o H) :
    Meets (Builtin.«enumerate.__new__» ⟨[.type "enumerate", v], []⟩) (fun _ R s => H s.heap ∧ R (.ok (.ret (.ref (s.heap.push o).objs.size))) { s with heap := (s.heap.push o).push { cls := .type "enumerate", data := .fields #[.none, .bool false, .ref s.heap.objs.size, rawInt 0, .none, .none] } }) :=
  .of_wp fun prog w A R s h => by
    obtain ⟨hp, g, d, tk, os⟩ := s
    obtain ⟨h1, h⟩ := h
    have hsub := sub_enumerate
    have q1 : ∀ {A' : Around} {E : Value → Shared → Prop} {Q : Value → Shared → Prop}, Q (.ref hp.objs.size) ⟨hp.push o, g, d, tk, os⟩ → wpAny (model prog w) A' (pyIter v) Q E ⟨hp, g, d, tk, os⟩ := fun q => B.iter prog w _ _ ⟨hp, g, d, tk, os⟩ _ h1 q
    wp_walk using q1
    refine wpAny_stack_any fun st => wpAny_pure ?_
    split
    · rename_i c _ _ _ _ _
      cases (c == Value.type "enumerate") <;> (wp_walk using q1; exact ⟨_, rfl, h⟩)
    · wp_walk using q1
      exact ⟨_, rfl, h⟩
section
variable {prog : Program} {w : World} {A : Around} {E : Value → Shared → Prop} {s : Shared}
theorem begins1 {v : Value} {o : Obj} {H : Heap → Prop} {Q : Value → Shared → Prop} (B : Begins v o H) (h1 : H s.heap)
    (h : ∀ h', IsEnum h' (s.heap.objs.size + 1) s.heap.objs.size 0 .none → h'.get? s.heap.objs.size = some o → (∀ b o, s.heap.get? b = some o → h'.get? b = some o) → Q (.ref (s.heap.objs.size + 1)) { s with heap := h' }) :
    wpAny (model prog w) A (call (.type "enumerate") [v]) Q E s := by
  refine callType_new F.called_enumerate (by decide) (F.typeCall_enumerate_1 _) (F.newCall_enumerate_1 _) (fun obj => F.args_object_init_2 obj _) F.entry_enumerate_new (meets_new1 B) ⟨h1, ?_⟩
  have hz : (s.heap.push o).objs.size = s.heap.objs.size + 1 := Heap.size_push ..
  show _ ∧ _
  rw [hz]
  have he : IsEnum ((s.heap.push o).push { cls := .type "enumerate", data := .fields #[.none, .bool false, .ref s.heap.objs.size, rawInt 0, .none, .none] }) (s.heap.objs.size + 1) s.heap.objs.size 0 .none := by
    have z := Heap.get?_push_size (s.heap.push o) (o := { cls := .type "enumerate", data := .fields #[.none, .bool false, .ref s.heap.objs.size, rawInt 0, .none, .none] }) rfl
    rw [hz] at z
    exact z
  exact ⟨⟨_, he, rfl⟩, h _ he (Heap.get?_push_of_some _ (Heap.get?_push_size _ B.free)) fun b o x => Heap.get?_push_of_some _ (Heap.get?_push_of_some _ x)⟩
end
end PySem.EnT
namespace L2
open PySem PySem.Spec PyProof.Rows
theorem wpAny_pyNext_enum_endE {prog : Program} {w : World} {A : Around} {E : Value → Shared → Prop} {s : Shared} {e it a : Addr} {i : Nat} {items : Array Value} {old : Value} {Q : Option Value → Shared → Prop} (hh : A.handled = none)
    (he : IsEnum s.heap e it i old) (hit : s.heap.IsTupleIter it a i) (hl : s.heap.IsTuple a items) (hx : items[i]? = none)
    (hQ : ∀ h', Heap.ExtBut it s.heap h' → Q none { s with heap := h' }) : wpAny (model prog w) A (pyNext (.ref e)) Q E s := by
  have hT : s.TypeIs (.ref e) "enumerate" := ⟨_, he, rfl⟩
  unfold pyNext
  refine wpAny_bind (wpAny_attempt (wpAny_callSpecial?_slot (name := Str.ofString "__next__") hT F.slot_enumerate_next (wpAny_call_entry F.slot_enumerate_next hT F.entry_enumerate_next ?_ (F.args_enumerate_next_1 _))))
  show wpAny _ _ (field (.ref e) 2 >>= _) _ _ _
  refine wpAny_bind (wpAny_field he rfl (x := .ref it) rfl ?_)
  refine wpAny_bind (wpAny_nextOf_tuple_end (by rw [show A.in1.handled = A.handled from rfl]; exact hh) hit hl hx fun h' x he' hx' => ?_)
  obtain ⟨o, ho, hc⟩ := hx'
  refine wpAny_bind (wpAny_isInstance (T := "StopIteration") (b := true) ⟨o, ho, hc⟩ isSubtype_stop ?_)
  exact wpAny_pure (hQ _ he')
/-- the tuple at a, each item in a new pair -/
def IteT (K : PySem.W.Frag) (a : Addr) : It :=
  ⟨fun i H => ∃ (xs : List V) (x : V), SqT K H a xs ∧ xs[i]? = some x, fun i H v H' => ∃ T x, v = .ref T ∧ H T = none ∧ H' = upd H T (.tup [.int (i : Nat), x]) ∧ ∀ xs, SqT K H a xs → xs[i]? = some x, fun i H => ∃ xs : List V, SqT K H a xs ∧ xs.length ≤ i⟩
theorem turn_enumT {P : Program} {w : World} {K : PySem.W.Frag} {elts : List Expr} {kk : Nat} {tpos : Pos} (a e it : Addr) (hai : a ≠ it) (hae : a ≠ e) :
    Turn P w K (.Tuple elts kk tpos) (IteT K a) [e, it] e (fun i h => (∃ old, IsEnum h e it ((i : Nat) : Int) old) ∧ h.IsTupleIter it a i ∧ e ≠ it) where
  mem := by simp
  obj := fun i h st b hb => by
    obtain ⟨⟨old, he⟩, ⟨o, ho, hc, hd⟩, _⟩ := st
    have e' : b = e ∨ b = it := by simpa using hb
    rcases e' with z | z
    · rw [z]; exact ⟨_, he, fun v q => nomatch q⟩
    · rw [z]; exact ⟨o, ho, fun v q => by rw [hd] at q; cases q⟩
  keep := fun i h h' st k => let ⟨⟨old, he⟩, hi, hne⟩ := st; ⟨⟨old, k e (by simp) _ he⟩, hi.at fun o q => k it (by simp) o q, hne⟩
  item := by
    intro X hP hw hK hc i pins s σ H E I hf st hg
    subst hP hw hK
    obtain ⟨⟨old, he⟩, hit, hne⟩ := st
    obtain ⟨xs, x, hq, hx⟩ := hg
    obtain ⟨its, rv, p, hz⟩ := I.tuple hq
    obtain ⟨u, hu, ru⟩ := rv.get hx
    have hel : e < s.heap.objs.size := Heap.lt_size he
    have hil : it < s.heap.objs.size := by obtain ⟨_, q, _⟩ := hit; exact Heap.lt_size q
    have hlt : i < its.toArray.size := by
      have := (List.getElem?_eq_some_iff.mp hu).1
      simpa using this
    refine wpAny_pyNext_enum_itemD (Draws.tuple (A := X.A.in1) (by rw [show X.A.in1.handled = X.A.handled from rfl]; exact I.ok.hd hc) it a hai its.toArray) he ⟨hit, p⟩ hlt hne (by simp [hne, Ne.symm hae]) fun y h' tk hy ho hst hT hsz hk => ?_
    have yu : y = u := by
      have : its.toArray[i]? = some y := hy
      rw [List.getElem?_toArray, hu] at this
      exact (Option.some.inj this).symm
    subst yu
    refine ⟨_, rfl, wpAny_letOwnedTupleGo_enum (s := { s with heap := h', toks := tk + 1 }) ho fun h'' he' sb => ?_⟩
    have hT2 : h''.get? s.heap.objs.size = some { cls := .type "tuple", data := .seq #[.int i tk, y] } := (sb.2 _ (Nat.ne_of_gt hel)).trans hT
    have new : ObjOk X.prog X.w (upd H s.heap.objs.size (.tup [.int (i : Nat), x])) h'' s.heap.objs.size (.tup [.int (i : Nat), x]) :=
      ⟨by show 2 ≤ sizeLine; decide, [.int i tk, y], .cons ⟨_, rfl⟩ (.cons ru .nil), ⟨_, hT2, rfl, _, rfl⟩⟩
    have I1 : Inv X pins σ (upd H s.heap.objs.size (.tup [.int (i : Nat), x])) { s with heap := h'', toks := tk + 1 } :=
      I.turnedNew (ch := [e, it]) (fun b ob hb q => (sb.2 b (fun z => hb (by simp [z]))).trans (hk b ob (fun z => hb (by simp [z])) (fun z => hb (by simp [z])) q)) hf (Nat.le_refl _) new
    refine ⟨.ref s.heap.objs.size, _, I1, rfl, ⟨_, x, rfl, I.hok.fresh (Nat.le_refl _), rfl, fun ys hy => by rw [I.tuple_inj hy hq]; exact hx⟩, ⟨⟨y, ?_⟩, hst.1.at fun o q => (sb.2 it (Ne.symm hne)).trans q, hne⟩, fun b hb => ?_⟩
    · have e1 : ((i + 1 : Nat) : Int) = (i : Int) + 1 := by omega
      rw [e1]; exact he'
    · have hb' : b < s.heap.objs.size := by
        have e' : b = e ∨ b = it := by simpa using hb
        rcases e' with z | z
        · rw [z]; exact hel
        · rw [z]; exact hil
      rw [upd_ne (Nat.ne_of_lt hb')]
      exact (hf b hb).1
  done := by
    intro X hP hw hK hc i pins s σ H E I hf st hg
    subst hP hw hK
    obtain ⟨⟨old, he⟩, hit, hne⟩ := st
    obtain ⟨xs, hq, hx⟩ := hg
    obtain ⟨its, rv, p, hz⟩ := I.tuple hq
    obtain ⟨f0, f1, f2, f3, f4, f5⟩ := hf it (by simp)
    have hl := rv.length
    have hge : its.toArray[i]? = none := by simp; omega
    have heq : ∀ (m : Nat), i = m → True := fun _ _ => trivial
    refine wpAny_pyNext_enum_endE (I.ok.hd hc) he hit p hge fun h' eb => ⟨rfl, I.turned (t' := s.toks) (fun b o hb q => eb b o hb q) f0 f1 f3 f4 f5⟩
  self := fun A i s Q E st h => let ⟨⟨_, he⟩, _⟩ := st; wpAny_pyIter_enum he h
def iEnumT (K : PySem.W.Frag) (ta : TA) : TI := fun σ H R => ta σ H fun vs H1 => ∃ a xs, vs = [.ref a] ∧ SqT K H1 a xs ∧ R (IteT K a) H1
theorem pi_enumT {X : Cx} {e : Expr} {ta : TA} {p pos tpos : Pos} {elts : List Expr} {kk : Nat} (hg : Gl X "enumerate") (hm : X.mg "enumerate" = none) (ha : PA X [e] ta) (hs : starEach [e] X.env = [(false, eval e X.env)] := by rfl) :
    PI X (.Tuple elts kk tpos) (.Call (.Name "enumerate" p) [e] [] pos) (iEnumT X.K ta) := by
  refine ⟨fun pins s σ H R I h => ?_⟩
  refine Call_ (ld_blt I hg hm boot_enumerate (PyProof.Rows.callWith_type1 (thn (ha.run pos pins s σ H _ I h) fun us s1 ⟨vs, H1, I1, r1, q1⟩ => ?_) hs rfl))
  obtain ⟨a, xs, ex, hq, q⟩ := q1
  subst ex
  cases r1 with
  | cons r rr =>
    cases rr
    cases r
    obtain ⟨its, rv, p', hz⟩ := I1.tuple hq
    have ha' : a < s1.heap.objs.size := by obtain ⟨_, z, _⟩ := p'; exact Heap.lt_size z
    refine PySem.EnT.begins1 (begins_tuple a its.toArray) p' fun h' he hit hk => wpAny_pyIter_enum he ?_
    have I2 : Inv X pins σ H1 { s1 with heap := h' } := I1.kept (t' := s1.toks) hk
    refine ⟨s1.heap.objs.size + 1, [s1.heap.objs.size + 1, s1.heap.objs.size], _, _, H1, rfl, I2, turn_enumT a (s1.heap.objs.size + 1) s1.heap.objs.size (Nat.ne_of_lt ha') (Nat.ne_of_lt (Nat.lt_succ_of_lt ha')), ⟨⟨.none, he⟩, ⟨_, hit, rfl, rfl⟩, Nat.succ_ne_self _⟩, fun b hb => ?_, q⟩
    have e' : b = s1.heap.objs.size + 1 ∨ b = s1.heap.objs.size := by simpa using hb
    have hle : s1.heap.objs.size ≤ b := by
      rcases e' with z | z
      · rw [z]; exact Nat.le_add_right _ _
      · rw [z]; exact Nat.le_refl _
    exact I1.fpOk hle (I1.hok.fresh hle)
end L2
namespace SX
open PySem PySem.Spec PyProof.Rows L2
noncomputable section
open Classical
variable [Tabs]

/-! ### walks -/
structure Walks (K : PySem.W.Frag) (J : L2.It) (w : Walk) (ι0 : List Addr) (H0 : Hp) : Prop where
  go : ∀ (i : Nat) ι H S, Mono ι0 H0 ι H → SR K ι S H → w.here S → i < w.items.length → J.go i H
  yld : ∀ (i : Nat) ι H S x H' d, Mono ι0 H0 ι H → SR K ι S H → w.here S → w.items[i]? = some d → J.yld i H x H' → Rep K ι H' d x ∧ Step ι H ι H' ∧ SR K ι S H'
  stop : ∀ (i : Nat) ι H S, Mono ι0 H0 ι H → SR K ι S H → w.here S → w.items.length ≤ i → J.stop i H
theorem walks_tup {K : PySem.W.Frag} {ι : List Addr} {H : Hp} {ds : List D} {a : Addr} {xs : List V} (h : SqT K H a xs) (r : Reps K ι H ds xs) : Walks K (Itt K a) ⟨ds, none⟩ ι H where
  go := fun i ι1 H1 S m _ _ hi => by
    have hx : i < xs.length := by rw [← r.len]; exact hi
    exact ⟨xs, xs[i], m.sqT h, List.getElem?_eq_getElem hx⟩
  yld := fun i ι1 H1 S x H' d m s _ e y => by
    obtain ⟨rfl, y⟩ := y
    obtain ⟨v, ev, rv⟩ := (Reps.mono m ds xs r).get e
    have e2 := y xs (m.sqT h)
    rw [ev] at e2
    cases e2
    exact ⟨rv, Step.refl, s⟩
  stop := fun i ι1 H1 S m _ _ hi => ⟨xs, m.sqT h, by rw [← r.len]; exact hi⟩
theorem walks_rls {K : PySem.W.Frag} {ι : List Addr} {H : Hp} {ds : List D} {a : Addr} {xs : List V} (h : RoL K H a xs) (r : Reps K ι H ds xs) : Walks K (Itl K a) ⟨ds, none⟩ ι H where
  go := fun i ι1 H1 S m _ _ hi => by
    have hx : i < xs.length := by rw [← r.len]; exact hi
    exact ⟨xs, xs[i], (m.roL h).seq, List.getElem?_eq_getElem hx⟩
  yld := fun i ι1 H1 S x H' d m s _ e y => by
    obtain ⟨rfl, y⟩ := y
    obtain ⟨v, ev, rv⟩ := (Reps.mono m ds xs r).get e
    have e2 := y xs (m.roL h).seq
    rw [ev] at e2
    cases e2
    exact ⟨rv, Step.refl, s⟩
  stop := fun i ι1 H1 S m _ _ hi => ⟨xs, (m.roL h).seq, by rw [← r.len]; exact hi⟩
theorem walks_lst {K : PySem.W.Frag} {ι : List Addr} {H : Hp} {ds : List D} {a : Addr} {l : Nat} (h : ι[l]? = some a) : Walks K (Itl K a) ⟨ds, some l⟩ ι H where
  go := fun i ι1 H1 S m s e hi => by
    obtain ⟨b, xs, e1, q, r⟩ := s.lst e
    rw [m.get h] at e1
    cases e1
    have hx : i < xs.length := by rw [← r.len]; exact hi
    exact ⟨xs, xs[i], SqL.of q, List.getElem?_eq_getElem hx⟩
  yld := fun i ι1 H1 S x H' d m s e0 e y => by
    obtain ⟨rfl, y⟩ := y
    obtain ⟨b, xs, e1, q, r⟩ := s.lst e0
    rw [m.get h] at e1
    cases e1
    obtain ⟨v, ev, rv⟩ := r.get e
    have e2 := y xs (SqL.of q)
    rw [ev] at e2
    cases e2
    exact ⟨rv, Step.refl, s⟩
  stop := fun i ι1 H1 S m s e hi => by
    obtain ⟨b, xs, e1, q, r⟩ := s.lst e
    rw [m.get h] at e1
    cases e1
    exact ⟨xs, SqL.of q, by rw [← r.len]; exact hi⟩
theorem walks_rng {K : PySem.W.Frag} {ι : List Addr} {H : Hp} (lo : Int) (n : Nat) : Walks K (Itr lo n) ⟨(List.range n).map fun (k : Nat) => .int (lo + (k : Int)), none⟩ ι H where
  go := fun i ι1 H1 S m s e hi => by
    show i < n
    simpa using hi
  yld := fun i ι1 H1 S x H' d m s e0 e y => by
    obtain ⟨rfl, rfl⟩ := y
    have hi : i < n := by
      have := (List.getElem?_eq_some_iff.mp e).1
      simpa using this
    rw [List.getElem?_map, List.getElem?_range hi] at e
    cases e
    exact ⟨to_int _, Step.refl, s⟩
  stop := fun i ι1 H1 S m s e hi => by
    show n ≤ i
    simpa using hi
theorem walks_enum {K : PySem.W.Frag} {ι : List Addr} {H : Hp} {ds : List D} {a : Addr} {xs : List V} (h : SqT K H a xs) (r : Reps K ι H ds xs) : Walks K (L2.IteT K a) ⟨enumD ds, none⟩ ι H where
  go := fun i ι1 H1 S m _ _ hi => by
    have hx : i < xs.length := by rw [← r.len]; simpa [enumD] using hi
    exact ⟨xs, xs[i], m.sqT h, List.getElem?_eq_getElem hx⟩
  yld := fun i ι1 H1 S x H' d m s _ e y => by
    obtain ⟨T, z, rfl, hT, rfl, y⟩ := y
    unfold enumD at e
    rw [List.getElem?_mapIdx] at e
    obtain ⟨dd, e1, rfl⟩ := Option.map_eq_some_iff.mp e
    obtain ⟨v, ev, rv⟩ := (Reps.mono m ds xs r).get e1
    have e2 := y xs (m.sqT h)
    rw [ev] at e2
    cases e2
    have st : Step ι1 H1 ι1 (upd H1 T (.tup [.int (i : Nat), z])) := step_laid hT
    exact ⟨rep_tupI (.inl (.inl upd_same)) (.cons (to_int _) (.cons (Rep.step st _ _ rv) .nil)), st, s.laid hT⟩
  stop := fun i ι1 H1 S m _ _ hi => ⟨xs, m.sqT h, by rw [← r.len]; simpa [enumD] using hi⟩
theorem walks_zip {K : PySem.W.Frag} {ι : List Addr} {H : Hp} {ds es : List D} {a b : Addr} {xs ys : List V} (h : SqT K H a xs) (r : Reps K ι H ds xs) (h2 : SqT K H b ys) (r2 : Reps K ι H es ys) : Walks K (RZ.ItzT K a b) ⟨zipD ds es, none⟩ ι H where
  go := fun i ι1 H1 S m _ _ hi => by
    have hi' : i < ds.length ∧ i < es.length := by
      unfold zipD at hi
      rw [List.length_zipWith] at hi
      omega
    have hx : i < xs.length := by rw [← r.len]; exact hi'.1
    have hy : i < ys.length := by rw [← r2.len]; exact hi'.2
    exact ⟨xs, ys, xs[i], ys[i], m.sqT h, m.sqT h2, List.getElem?_eq_getElem hx, List.getElem?_eq_getElem hy⟩
  yld := fun i ι1 H1 S x H' d m s _ e y => by
    obtain ⟨T, z, u, rfl, hT, rfl, y, y2⟩ := y
    unfold zipD at e
    rw [List.getElem?_zipWith] at e
    have e0 : ∃ p q, ds[i]? = some p ∧ es[i]? = some q ∧ d = .tup [p, q] := by
      cases e1 : ds[i]? with
      | none => rw [e1] at e; cases e
      | some p =>
        cases e3 : es[i]? with
        | none => rw [e1, e3] at e; cases e
        | some q => rw [e1, e3] at e; cases e; exact ⟨p, q, rfl, rfl, rfl⟩
    obtain ⟨p, q, e1, e3, rfl⟩ := e0
    obtain ⟨v, ev, rv⟩ := (Reps.mono m ds xs r).get e1
    obtain ⟨v2, ev2, rv2⟩ := (Reps.mono m es ys r2).get e3
    have e2 := y xs (m.sqT h)
    rw [ev] at e2
    cases e2
    have e4 := y2 ys (m.sqT h2)
    rw [ev2] at e4
    cases e4
    have st : Step ι1 H1 ι1 (upd H1 T (.tup [z, u])) := step_laid hT
    exact ⟨rep_tupI (.inl (.inl upd_same)) (.cons (Rep.step st _ _ rv) (.cons (Rep.step st _ _ rv2) .nil)), st, s.laid hT⟩
  stop := fun i ι1 H1 S m _ _ hi => by
    have hi' : ds.length ≤ i ∨ es.length ≤ i := by
      unfold zipD at hi
      rw [List.length_zipWith] at hi
      omega
    exact ⟨xs, ys, m.sqT h, m.sqT h2, by rw [← r.len, ← r2.len]; exact hi'⟩
def RdI (K : PySem.W.Frag) (F : Fns) (it : It) : TI := fun σ H R => ∃ ι env S w S1, REnv K ι H env σ ∧ SR K ι S H ∧ evIt F it env S = .ok w S1 ∧ ∀ ι1 H1 J, Step ι H ι1 H1 → SR K ι1 S1 H1 → Walks K J w ι1 H1 → R J H1

/-! ### a list that is being made -/
theorem step_out {ι ι' : List Addr} {H H' : Hp} {D : Addr} {o : HO} (s : Step ι H ι' H') (h : H D = none) : Step ι H ι' (upd H' D o) where
  pre := s.pre
  tup := fun a xs e => by rw [upd_ne (ne_of_none e h)]; exact s.tup a xs e
  frz := fun a x u e => by rw [upd_ne (ne_of_none e h)]; exact s.frz a x u e
  keep := fun a x e n nt => by rw [upd_ne (ne_of_none e h)]; exact s.keep a x e n nt
  tabs := fun a ps e => by
    obtain ⟨ps', h', t⟩ := s.tabs a ps e
    exact ⟨ps', by rw [upd_ne (ne_of_none e h)]; exact h', t⟩
  new := s.new
theorem mono_out {ι : List Addr} {H : Hp} {D : Addr} {xs ys : List V} (h : H D = some (.lst xs)) : Mono ι H ι (upd H D (.lst ys)) where
  pre := ⟨[], by simp⟩
  tup := fun b zs e => by rw [upd_ne (ne_of e h (by intro z; cases z))]; exact e
  frz := fun b x u e => by rw [upd_ne (ne_of e h (by intro z; cases z))]; exact e
theorem SR.out {K : PySem.W.Frag} {ι : List Addr} {S : Store} {H : Hp} {p : Addr} {xs ys : List V} (s : SR K ι S H) (n : p ∉ ι) (h : H p = some (.lst xs)) : SR K ι S (upd H p (.lst ys)) :=
  ⟨s.nd, s.len, fun l x a e1 e2 => by
    have ha : a ≠ p := fun z => n (z ▸ List.mem_of_getElem? e2)
    have q := s.at_ l x a e1 e2
    cases x with
    | lst ds =>
      obtain ⟨zs, h1, h2⟩ := q
      exact ⟨zs, by rw [upd_ne ha]; exact h1, Reps.mono (mono_out h) ds zs h2⟩, fun q hq => by
    obtain ⟨ps, e, t⟩ := s.tb q hq
    exact ⟨ps, by rw [upd_ne (fun z => by rw [z, h] at e; cases e)]; exact e, t⟩⟩
theorem SR.add {K : PySem.W.Frag} {ι : List Addr} {S : Store} {H : Hp} {p : Addr} {xs : List V} {ds : List D} (s : SR K ι S H) (n : p ∉ ι) (h : H p = some (.lst xs)) (r : Reps K ι H ds xs) : SR K (ι ++ [p]) (S ++ [.lst ds]) H := by
  have m : Mono ι H (ι ++ [p]) H := ⟨⟨[p], rfl⟩, fun _ _ e => e, fun _ _ _ e => e⟩
  refine ⟨?_, by rw [List.length_append, List.length_append, s.len]; rfl, fun l x a e1 e2 => ?_, s.tb⟩
  · rw [List.nodup_append]
    refine ⟨s.nd, by simp, fun a ha b hb e => ?_⟩
    rw [List.mem_singleton.mp hb] at e
    exact n (e ▸ ha)
  · by_cases hl : l < S.length
    · rw [List.getElem?_append_left hl] at e1
      rw [List.getElem?_append_left (by rw [s.len]; exact hl)] at e2
      have q := s.at_ l x a e1 e2
      cases x with
      | lst es =>
        obtain ⟨zs, h1, h2⟩ := q
        exact ⟨zs, h1, Reps.mono m es zs h2⟩
    · have hl2 : l = S.length := by
        have := (List.getElem?_eq_some_iff.mp e1).1
        rw [List.length_append] at this
        simp at this
        omega
      subst hl2
      rw [List.getElem?_append_right (Nat.le_refl _)] at e1
      rw [List.getElem?_append_right (by rw [s.len]; exact Nat.le_refl _), s.len] at e2
      simp at e1 e2
      subst e1 e2
      exact ⟨xs, h, Reps.mono m ds xs r⟩
theorem step_add {ι ι' : List Addr} {H H' : Hp} {D : Addr} (s : Step ι H ι' H') (h : H D = none) : Step ι H (ι' ++ [D]) H' where
  pre := by
    obtain ⟨t, e⟩ := s.pre
    exact ⟨t ++ [D], by rw [e, List.append_assoc]⟩
  tup := s.tup
  frz := s.frz
  keep := s.keep
  tabs := s.tabs
  new := fun a h1 h2 => by
    rcases List.mem_append.mp h1 with z | z
    · exact s.new a z h2
    · rw [List.mem_singleton.mp z]; exact h
theorem wipe_idem (σ : L2.St) (own : List Nat) : L2.wipe (L2.wipe σ own) own = L2.wipe σ own := by
  have : ∀ (vs : List Nat) (τ : L2.St), (∀ i ∈ vs, i ∈ own) → L2.wipe (L2.wipe τ vs) own = L2.wipe τ own := by
    intro vs
    induction vs with
    | nil => intro τ _; rfl
    | cons v vs ih =>
      intro τ h
      show L2.wipe ((L2.wipe τ vs).set v none) own = _
      rw [wipe_set (h v List.mem_cons_self), ih τ fun i hi => h i (List.mem_cons_of_mem _ hi)]
  exact this own σ fun _ h => h
theorem wipeE_idem : True := trivial

/-- the reading of a list comprehension -/
theorem lc_read {K : PySem.W.Frag} {F : Fns} {elt : E} {t : Tg} {it : It} {cs : Es} {own : List Nat} {σ : L2.St} {H : Hp} {Q : VK} (hsl : ∀ i ∈ slotsT t, i ∈ own)
    (h : RdE K F (.lc elt t it cs own) σ H Q) : tLc (RdI K F it) (TgS K t) (RdB K fun e s => evTs F cs e s) (RdE K F elt) own σ H Q := by
  obtain ⟨ι, env, S, re, sr, g⟩ := h
  unfold evE at g
  obtain ⟨w, S1, ew, g1⟩ := got_bnd g
  obtain ⟨ds, S2, el, g2⟩ := got_bnd g1
  refine ⟨ι, env, S, w, S1, re, sr, ew, fun ι1 H1 J st1 sr1 wk D hD => ?_⟩
  have re1 := re.step st1
  have g3 := got_step st1 g2
  let Wi : Nat → Hp → Prop := fun i Hc => ∃ ιc Sc acc accV, Step ι1 H1 ιc Hc ∧ D ∉ ιc ∧ Hc D = some (.lst accV) ∧ SR K ιc Sc Hc ∧ Reps K ιc Hc acc accV ∧ i ≤ w.items.length ∧
    lcL w t env own (fun e s => evTs F cs e s) (fun e s => evE F elt e s) (w.items.drop i) acc Sc = .ok ds S2
  refine ⟨fun i m Hc => m = w.items.length - i ∧ Wi i Hc, ⟨w.items.length, by simp, ι1, S1, [], [], step_laid hD, sr1.notMem hD, upd_same, sr1.laid hD, Reps.nil, Nat.zero_le _, by simpa using el⟩, ?_⟩
  rintro i m Hc ⟨rfl, ιc, Sc, acc, accV, stc, nD, eD, src, ra, hi, eL⟩
  by_cases hlt : i < w.items.length
  · refine .inr ?_
    rw [List.drop_eq_getElem_cons hlt] at eL
    unfold lcL at eL
    split at eL
    · rename_i here
      split at eL
      · rename_i env1 e1
        refine ⟨wk.go i ιc Hc Sc stc.toMono src here hlt, Wi (i + 1), fun H' hw => ⟨w.items.length - (i + 1), by omega, rfl, hw⟩, fun x Hy hy => ?_⟩
        obtain ⟨rd, sty, sry⟩ := wk.yld i ιc Hc Sc x Hy w.items[i] stc.toMono src here (List.getElem?_eq_getElem hlt) hy
        have stcy := stc.trans sty
        have eDy : Hy D = some (.lst accV) := sty.keep D _ eD nD (fun ps z => by cases z)
        have ray := Reps.step sty acc accV ra
        refine ⟨ιc, Sc, wipeE env own, w.items[i], env1, (re1.step stcy).wiped own, sry, rd, e1, fun σ1 re2 wok => ⟨?_, ?_⟩⟩
        · rw [wok own hsl]
          exact wipe_idem σ own
        · obtain ⟨b, S3, eb, el2⟩ := bnd_eq_ok eL
          refine ⟨ιc, env1, Sc, re2, sry, b, S3, eb, fun ι3 H3 b' st3 sr3 hb => ?_⟩
          subst hb
          have eD3 : H3 D = some (.lst accV) := st3.keep D _ eDy nD (fun ps z => by cases z)
          have nD3 : D ∉ ι3 := fun z => by
            have := st3.new D z nD
            rw [eDy] at this
            cases this
          have ra3 := Reps.step st3 acc accV ray
          cases b with
          | true =>
            rw [if_pos rfl] at el2 ⊢
            obtain ⟨y, S4, ey, el3⟩ := bnd_eq_ok el2
            refine ⟨ι3, env1, S3, re2.step st3, sr3, y, S4, ey, fun ι4 H4 yv st4 sr4 ry => ?_⟩
            split at el3
            · rename_i hl
              have eD4 : H4 D = some (.lst accV) := st4.keep D _ eD3 nD3 (fun ps z => by cases z)
              have nD4 : D ∉ ι4 := fun z => by
                have := st4.new D z nD3
                rw [eD3] at this
                cases this
              have ra4 := Reps.step st4 acc accV ra3
              refine ⟨accV, eD4, by rw [← line_eq, ← ra4.len]; exact hl, ι4, S4, acc ++ [y], accV ++ [yv], step_out ((stcy.trans st3).trans st4) hD, nD4, upd_same, sr4.out nD4 eD4, ?_, hlt, el3⟩
              exact Reps.mono (mono_out eD4) _ _ (ra4.append (.cons ry .nil))
            · cases el3
          | false =>
            rw [if_neg Bool.false_ne_true] at el2 ⊢
            exact ⟨ι3, S3, acc, accV, stcy.trans st3, nD3, eD3, sr3, ra3, hlt, el2⟩
      · cases eL
    · cases eL
  · have hi2 : i = w.items.length := by omega
    subst hi2
    rw [List.drop_length] at eL
    unfold lcL at eL
    split at eL
    · rename_i here
      cases eL
      refine .inl ⟨wk.stop _ ιc Hc _ stc.toMono src here (Nat.le_refl _), ?_⟩
      unfold new at g3
      refine got_ok g3 (ιc ++ [D]) Hc (.ref D) (step_add stc hD) (src.add nD eD ra) ?_
      unfold Rep
      exact ⟨D, rfl, new_get src D⟩
    · cases eL

/-! ### the tests' own forms -/
theorem pt_ite {X : Cx} {c a b : Expr} {pos : Pos} {tA tB tC : TT} (hc : PT X c tA) (ha : PT X a tB) (hb : PT X b tC) : PT X (.IfExp c a b pos) (fun σ H Q => tA σ H fun k H1 => if k = true then tB σ H1 Q else tC σ H1 Q) := by
  refine ⟨fun pins s σ H Q I h => ?_⟩
  show wpAny _ _ (do if ← isTrue c X.env (eval c X.env) then isTrue a X.env (eval a X.env) else isTrue b X.env (eval b X.env)) _ _ _
  refine wpAny_bind (thn (hc.run pins s σ H _ I h) fun k s1 ⟨H1, I1, q⟩ => ?_)
  cases k with
  | true => exact ha.run pins s1 σ H1 Q I1 q
  | false => exact hb.run pins s1 σ H1 Q I1 q
end
end SX
namespace SX
open PySem PySem.Spec PyProof.Rows L2
noncomputable section
open Classical
variable [Tabs]

theorem boot_pr (p : Pr) : bootBuiltins (prN p) = some (match p with | .abs => .builtin "abs" | .int => .type "int" | .len => .builtin "len" | .max => .builtin "max" | .min => .builtin "min" | .tuple => .type "tuple" | .list => .type "list" | .any => .builtin "any" | .sorted => .builtin "sorted" | .sum => .builtin "sum") := by
  cases p <;> decide +kernel
theorem boot_ty (t : Ty) : bootBuiltins (tyN t : Str) = some (.type (tyN t)) := by
  cases t <;> decide +kernel
theorem boot_isi : bootBuiltins ("isinstance" : Str) = some (.builtin "isinstance") := by decide +kernel
theorem bl_of {c : Cn} {F : Fns} {X : Cx} {x : Str} (f : Fits c F X) (h : blB c x = true) : Gl X x ∧ X.mg x = none ∧ x ≠ "__name__" ∧ (x == ("__debug__" : Str)) = false := by
  unfold blB at h
  simp only [Bool.and_eq_true] at h
  obtain ⟨g1, g2⟩ := gl_of h.1.1
  refine ⟨?_, f.bl x h.1.2, ?_, g2⟩
  · show X.env.scope.names.lookup x = _
    rw [f.sc]
    exact g1
  · intro e
    have := h.2
    rw [e] at this
    simp at this
theorem Fits.blk {c : Cn} {F : Fns} {X : Cx} (f : Fits c F X) (s : Shared) (H : Hp) (scope : Scope) (C : Addr) (cl : List (Str × Addr)) (fp : List Addr) :
    Fits { c with sc := relS scope c.sc } F (X.blk s H scope (compEnvC scope cl C X.env) fp) where
  calm := f.calm
  N := f.N
  nd := f.nd
  sc := by
    show relS scope X.env.scope = relS scope c.sc
    rw [f.sc]
  un := f.un
  xe := rfl
  bl := f.bl
  co := fun x k h => ⟨(f.co x k h).ex⟩
  gx := f.gx
  rm := let ⟨k, h1, h2, h3⟩ := f.rm; ⟨k, h1, h2, fun g hg => ⟨(h3 g hg).ex⟩⟩

/-! ### calls of defs -/
theorem kw_names {kws : List Keyword} {ns : List Str} (h : kwNames kws = some ns) (pos : Pos) (env : PySem.Env) :
    (backToKw pos (keywordEach kws env)).all (·.1.isSome) = true ∧ (backToKw pos (keywordEach kws env)).filterMap (·.1) = ns ∧ (backToKw pos (keywordEach kws env)).any (·.1.isNone) = false := by
  induction kws generalizing ns with
  | nil => unfold kwNames at h; cases h; exact ⟨rfl, rfl, rfl⟩
  | cons k ks ih =>
    obtain ⟨nm, v, p⟩ := k
    cases nm with
    | none => unfold kwNames at h; cases h
    | some n =>
      unfold kwNames at h
      obtain ⟨ms, e, rfl⟩ := Option.map_eq_some_iff.mp h
      obtain ⟨h1, h2, h3⟩ := ih e
      unfold backToKw at h1 h2 h3 ⊢
      unfold keywordEach
      refine ⟨?_, ?_, ?_⟩
      · rw [List.map_cons, List.all_cons, h1]; rfl
      · rw [List.map_cons, List.filterMap_cons, h2]
      · rw [List.map_cons, List.any_cons, h3]; rfl
theorem vals_perm {vs : List V} {us : List Value} (r : Vals vs us) : ∀ (perm : List Nat), (∀ i ∈ perm, i < vs.length) → Vals (permV perm vs) (permV perm us)
  | [], _ => .nil
  | i :: is, h => by
    have hi : i < vs.length := h i List.mem_cons_self
    obtain ⟨u, eu, ru⟩ := r.get (List.getElem?_eq_getElem hi)
    have ih := vals_perm r is fun j hj => h j (List.mem_cons_of_mem _ hj)
    unfold permV at ih ⊢
    rw [List.filterMap_cons, List.filterMap_cons, List.getElem?_eq_getElem hi, eu]
    exact .cons ru ih
theorem reps_perm {K : PySem.W.Frag} {ι : List Addr} {H : Hp} {ds : List D} {vs : List V} (r : Reps K ι H ds vs) : ∀ (perm : List Nat), (∀ i ∈ perm, i < vs.length) → Reps K ι H (permD perm ds) (permV perm vs)
  | [], _ => Reps.nil
  | i :: is, h => by
    have hi : i < ds.length := by rw [r.len]; exact h i List.mem_cons_self
    obtain ⟨v, ev, rv⟩ := r.get (List.getElem?_eq_getElem hi)
    have ih := reps_perm r is fun j hj => h j (List.mem_cons_of_mem _ hj)
    unfold permD permV at ih ⊢
    rw [List.filterMap_cons, List.filterMap_cons, List.getElem?_eq_getElem hi, ev]
    exact .cons rv ih
/-- the callee runs, its arguments by keywords too -/
theorem run_kw {X : Cx} {pins : List (Addr × Obj)} {σ : L2.St} {H : Hp} {s : Shared} {Q : VK} {us ws : List Value} {vs zs : List V} {k n : Nat} {f : Addr} {fd : FuncData} {ps ks : List Str} {perm : List Nat} {sp : Sp}
    (F : FnOk X.prog X.w X.K X.mg X.base CX0 k f fd ps sp) (hr : Room k X.A) (hb : KB fd ps n ks perm) (I : Inv X pins σ H s) (r : Vals vs us) (rz : Vals zs ws) (l1 : vs.length = n) (l2 : zs.length = ks.length)
    (h : sp (permV perm (vs ++ zs)) H Q E0) : wpAny (model X.prog X.w) X.A (call (.ref f) us (ks.zip ws)) (EP X pins σ Q) X.xe s := by
  have r2 := vals_perm (r.append rz) perm fun i hi => by
    rw [List.length_append, l1, l2]
    exact hb.lt i hi
  refine wpAny_call (codeAny_mono (F.run X.A X.stack s H ⟨us, ks.zip ws⟩ (permV perm (us ++ ws)) (permV perm (vs ++ zs)) Q E0 hr I.env0 (.of_eq (hb.to us ws (r.length.symm.trans l1) (rz.length.symm.trans l2))) r2 h) fun r s' hq => ?_)
  cases r with
  | error e => exact hq.elim
  | ok fl =>
    cases fl with
    | ret u => exact I.after hq
    | next => exact False.elim hq
    | brk => exact False.elim hq
    | cont => exact False.elim hq
theorem pe_kw {X : Cx} {x : Str} {p pos : Pos} {e : Expr} {es : List Expr} {kws : List Keyword} {t tk : TA} {k n : Nat} {f : Addr} {fd : FuncData} {ps ks : List Str} {perm : List Nat} {sp : Sp}
    (F : FnOk X.prog X.w X.K X.mg X.base CX0 k f fd ps sp) (hr : Room k X.A) (hg : Gl X x) (hdb : (x == ("__debug__" : Str)) = false) (hm : X.mg x = some (.ref f)) (hk : PySem.W.keepIn X.K (.ref f) = true) (hb : KB fd ps n ks perm)
    (ha : PA X (e :: es) t) (hkw : PK X kws tk) (hns : kwNames kws = some ks) (hst : noStar e = true) (hpl : (backTo pos (starEach (e :: es) X.env)).any (·.1) = false) :
    PE X (.Call (.Name x p) (e :: es) kws pos) (fun σ H Q => t σ H fun vs H1 => tk σ H1 fun zs H2 => vs.length = n ∧ zs.length = ks.length ∧ sp (permV perm (vs ++ zs)) H2 Q E0) := by
  refine ⟨fun pins s σ H Q I h => ?_⟩
  obtain ⟨n1, n2, n3⟩ := kw_names hns pos X.env
  refine wpAny_Call_Name_kw (ld_glob I hg hm ?_ hdb)
  refine PySem.W.callWith_KW (first := []) (h₀ := X.base) I.ok.mod.kin hk n1 (thn (ha.run pos pins s σ H _ I h) fun us s1 ⟨vs, H1, I1, r, q⟩ => ?_) (by rw [hpl, n3]; rfl) (star_each hst)
  refine thn (hkw.run pos pins s1 σ H1 _ I1 q) fun ws s2 ⟨zs, H2, I2, rz, l1, l2, q2⟩ => ⟨I2.kIn, ?_⟩
  rw [n2]
  exact run_kw F hr hb I2 r rz l1 l2 q2
theorem pe_kw0 {X : Cx} {x : Str} {p pos : Pos} {kws : List Keyword} {tk : TA} {k : Nat} {f : Addr} {fd : FuncData} {ps ks : List Str} {perm : List Nat} {sp : Sp}
    (F : FnOk X.prog X.w X.K X.mg X.base CX0 k f fd ps sp) (hr : Room k X.A) (hg : Gl X x) (hdb : (x == ("__debug__" : Str)) = false) (hm : X.mg x = some (.ref f)) (hk : PySem.W.keepIn X.K (.ref f) = true) (hb : KB fd ps 0 ks perm)
    (hkw : PK X kws tk) (hns : kwNames kws = some ks) :
    PE X (.Call (.Name x p) [] kws pos) (fun σ H Q => tk σ H fun zs H2 => zs.length = ks.length ∧ sp (permV perm zs) H2 Q E0) := by
  refine ⟨fun pins s σ H Q I h => ?_⟩
  obtain ⟨n1, n2, n3⟩ := kw_names hns pos X.env
  refine wpAny_Call_Name_kw (ld_glob I hg hm ?_ hdb)
  refine PySem.W.callWith_KW0 (first := []) (h₀ := X.base) I.ok.mod.kin hk n1 ?_ (by rw [n3]; rfl)
  refine thn (hkw.run pos pins s σ H _ I h) fun ws s2 ⟨zs, H2, I2, rz, l2, q2⟩ => ⟨I2.kIn, ?_⟩
  rw [n2]
  exact run_kw (us := []) (vs := []) F hr hb I2 .nil rz rfl l2 q2
end
end SX
namespace GX
open PySem PySem.Spec PyProof.Rows L2 GenW

/-- the context of a generator expression that was made at s, its iterator's objects at fp -/
abbrev gcx (X : Cx) (s : Shared) (H : Hp) (cenv : Env) (A : Around) (fp : List Addr) : Cx :=
  { X with A := A, s_0 := s, H_0 := H, env := cenv, outer := X.stack, stack := cenv :: X.stack, ex := fp, fn := fun _ => false, pn := [], xe := fun _ _ => False }
/-- the names of a generator expression's scope: its own (with their places in N), or captured -/
structure GenOk (N : List Str) (sc scope : Scope) (own : List (Str × Nat)) : Prop where
  kind : scope.kind = .function
  co : scope.isCoroutine = false
  dot : scope.names.lookup (".0" : Str) = some NameKind.local
  dotN : (".0" : Str) ∉ N
  cell : ∀ y ∈ scope.names, y.2 ≠ .cell
  uniq : ∀ y ∈ scope.names, scope.names.lookup y.1 = some y.2
  ix : ∀ p ∈ own, N[p.2]? = some p.1
  free : ∀ y ∈ scope.names, y.2 = .free → sc.names.lookup y.1 = some .cell ∨ sc.names.lookup y.1 = some .free
  own : ∀ y ∈ scope.names, y.2 = .local → y.1 ∈ own.map (·.1) ∨ y.1 ∉ N
section
variable {X : Cx} {pins : List (Addr × Obj)} {σ : L2.St} {H : Hp} {s : Shared}
theorem gen_start {scope : Scope} {own : List (Str × Nat)} {fp : List Addr} {cenv : Env} {A : Around} {C : Addr} {s4 : Shared} {m : Str → Option Value} (I : Inv X pins σ H s) (ok : GenOk X.N X.env.scope scope own) (hN : X.N.Nodup) (hc : X.calm = true → A.handled = none)
    (hfp : ∀ b ∈ fp, FpOk X pins H b ∧ b < s.heap.objs.size) (hsc : cenv.scope = scope) (hL : cenv.locals = C) (hcl : cenv.cells = cloFrom X.env.cells scope.names []) (hgl : cenv.globals = X.env.globals) (hbi : cenv.builtins = builtinsNs) (hfr : cenv.frame = some C)
    (hA : A.frames = some (cenv :: X.stack)) (hC : s.heap.objs.size ≤ C) (kp : ∀ b o, s.heap.get? b = some o → s4.heap.get? b = some o) (hn : s4.heap.Ns C m) (hos : s4.os = s.os) (hb : AllBare s4.gens) :
    Inv (gcx X s H cenv A fp) [] (wipe σ (own.map (·.2))) H s4 := by
  have hfree : ∀ y ∈ scope.names, y.2 = .free → ∃ c, X.env.cells.lookup y.1 = some c := fun y hy e => by
    rcases ok.free y hy e with k | k
    · exact I.ok.has _ (.inl k)
    · exact I.ok.has _ (.inr k)
  have cm : ∀ {y c}, (y, c) ∈ cloFrom X.env.cells scope.names [] → X.env.cells.lookup y = some c ∧ c < s.heap.objs.size := fun {y c} hm => by
    rcases cloFrom_mem hm with hm | ⟨h1, rfl⟩
    · cases hm
    · obtain ⟨c, hc⟩ := hfree _ h1 rfl
      rw [hc]
      obtain ⟨w, z⟩ := I.cell _ _ hc
      exact ⟨rfl, z.lt⟩
  have mem : ∀ {y c}, cenv.cells.lookup y = some c → X.env.cells.lookup y = some c ∧ c < s.heap.objs.size := fun {y c} e => by
    rw [hcl] at e
    exact cm (PySem.mem_of_lookup e)
  have look : ∀ {y}, scope.names.lookup y = some .free → ∃ c, cenv.cells.lookup y = some c ∧ X.env.cells.lookup y = some c := fun {y} hl => by
    have hy : (y, NameKind.free) ∈ scope.names := PySem.mem_of_lookup hl
    obtain ⟨c', e'⟩ := mem_lookup (cloFrom_has (cells := X.env.cells) (acc := []) hy)
    rw [← hcl] at e'
    exact ⟨c', e', (mem e').1⟩
  have nocell : ∀ {y}, scope.names.lookup y ≠ some .cell := fun {y} e => ok.cell _ (PySem.mem_of_lookup e) rfl
  have okB : (gcx X s H cenv A fp).Ok := by
    refine ⟨I.ok.mod, by show cenv.scope.kind = _; rw [hsc]; exact ok.kind, by show cenv.globals = _; rw [hgl]; exact I.ok.glob, hbi, by show s.heap.objs.size ≤ cenv.locals; rw [hL]; exact hC,
      fun y z c e1 e2 => ?_, fun y hy => ?_, fun y c z e => ?_, hc, hA, .inr ⟨rfl, ?_⟩, fun b hb => ⟨?_, fun y c e z => ?_⟩, I.bs, Nat.le_trans I.ok.bsz I.sz, fun b o e hb => ?_, fun b hb z => ?_, I.stack, I.stkFree⟩
    · exact I.ok.inj y z c (mem e1).1 (mem e2).1
    · show ∃ c, cenv.cells.lookup y = some c
      have hy : cenv.scope.names.lookup y = some .cell ∨ cenv.scope.names.lookup y = some .free := hy
      rw [hsc] at hy
      rcases hy with hy | hy
      · exact absurd hy nocell
      · obtain ⟨c, h1, _⟩ := look hy
        exact ⟨c, h1⟩
    · exact absurd (show false = true from z) (by decide)
    · show cenv.frame = some cenv.locals
      rw [hfr, hL]
    · show b ≠ cenv.locals
      rw [hL]
      exact Nat.ne_of_lt (Nat.lt_of_lt_of_le (hfp b hb).2 hC)
    · exact (hfp b hb).1.2.2.2.2.1 y c (mem e).1 z
    · rcases (hfp b hb).1.2.2.2.1 with z | z
      · exact I.ok.noex b o e z
      · exact absurd (Nat.lt_of_lt_of_le (Heap.lt_size e) (Nat.le_trans I.ok.bsz z)) (Nat.lt_irrefl _)
    · rcases List.mem_cons.mp (I.stkSub b z) with z | z
      · exact (hfp b hb).1.2.1 z
      · exact (hfp b hb).1.2.2.1 z
  refine ⟨okB, hos, hb, Un.kept kp, ⟨m, ?_, fun i y av e1 e2 e3 => ?_⟩, fun y c e => ?_, ?_, fun y c e => ?_, fun p hp => ?_, I.hok.kept kp, by rw [wipe_length]; exact I.len⟩
  · show Heap.Ns _ cenv.locals _
    rw [hL]
    exact hn
  · obtain ⟨e2, hne⟩ := wipe_some e2
    have e3 : cenv.scope.names.lookup y = some .local ∨ cenv.scope.names.lookup y = some .cell ∨ cenv.scope.names.lookup y = some .free := e3
    rw [hsc] at e3
    have hfr' : scope.names.lookup y = some .free := by
      rcases e3 with e3 | e3 | e3
      · rcases ok.own _ (PySem.mem_of_lookup e3) rfl with e' | e'
        · obtain ⟨p, hp, hpy⟩ := List.mem_map.mp e'
          have e4 := ok.ix p hp
          have : p.1 = y := hpy
          rw [this] at e4
          exact absurd (List.mem_map.mpr ⟨p, hp, nodup_ix hN e4 e1⟩) hne
        · exact absurd (List.mem_of_getElem? e1) e'
      · exact absurd e3 nocell
      · exact e3
    obtain ⟨mX, hnX, hl⟩ := I.loc
    have hvis : Vis X.env.scope y := (ok.free _ (PySem.mem_of_lookup hfr') rfl).elim (fun k => .inr (.inl k)) (fun k => .inr (.inr k))
    obtain ⟨w, r, q⟩ := hl i y av e1 e2 hvis
    have hk : cenv.kindOf y = some .free := by
      show cenv.scope.names.lookup y = some .free
      rw [hsc]
      exact hfr'
    refine ⟨w, r, .inr ⟨.inr hk, ?_⟩⟩
    obtain ⟨c, h1, h2⟩ := look hfr'
    rcases q with ⟨k, _⟩ | ⟨_, c', e', z⟩
    · have k : X.env.scope.names.lookup y = some .local := k
      rcases ok.free _ (PySem.mem_of_lookup hfr') rfl with k' | k' <;> rw [show X.env.scope.names.lookup y = _ from k'] at k <;> cases k
    · rw [h2] at e'; cases e'
      exact ⟨c, h1, z.keeps kp⟩
  · obtain ⟨w, z⟩ := I.cell y c (mem e).1
    exact ⟨w, z.keeps kp⟩
  · show H cenv.locals = none
    rw [hL]; exact I.hok.fresh hC
  · exact I.freeC y c (mem e).1
  · exact absurd (show p ∈ ([] : List (Addr × Obj)) ++ [] from hp) (by simp)
end
end GX
namespace GX
open PySem PySem.Spec PyProof.Rows L2 GenW

/-- the consumer's own object (the list that it fills, the sum so far): where it stands, what it holds when ys are out -/
structure Hold where
  S : Addr
  K : List V → Obj → Prop
  nocell : ∀ ys o, K ys o → ∀ v, o.data ≠ .cell v
def PS : Option Hold → List V → List (Addr × Obj) → Prop
  | none, _, ps => ps = []
  | some h, ys, ps => ∃ o, h.K ys o ∧ ps = [(h.S, o)]
/-- between two turns the consumer does no more than this -/
def Woke : Option Hold → List V → V → Shared → Shared → Prop
  | none, _, _, s, s' => s'.os = s.os ∧ AllBare s'.gens ∧ ∀ b o, s.heap.get? b = some o → s'.heap.get? b = some o
  | some h, ys, y, s, s' => s'.os = s.os ∧ AllBare s'.gens ∧ (∀ b o, b ≠ h.S → s.heap.get? b = some o → s'.heap.get? b = some o) ∧ ∃ o, s'.heap.get? h.S = some o ∧ h.K (ys ++ [y]) o
def ApartO (G : Cx) : Option Hold → Prop
  | none => True
  | some h => Apart G h.S
def Not_ (S : Option Hold) (b : Addr) : Prop := ∀ h, S = some h → b ≠ h.S
/-- the generator's own state: ys are out -/
def GJ (G : Cx) (S : Option Hold) (pa : List (Addr × Obj)) (ys : List V) (σ : L2.St) (H : Hp) (s : Shared) : Prop := ∃ ps, PS S ys ps ∧ Inv G (ps ++ pa) σ H s
theorem GJ.woken {G : Cx} {S : Option Hold} {pa : List (Addr × Obj)} {ys : List V} {x : V} {σ : L2.St} {H : Hp} {s s' : Shared} (hpn : ∀ p ∈ G.pn, Not_ S p.1) (hpa : ∀ p ∈ pa, Not_ S p.1) (hA : ApartO G S) (h : GJ G S pa ys σ H s) (z : Woke S ys x s s') :
    GJ G S pa (ys ++ [x]) σ H s' := by
  obtain ⟨ps, h1, I⟩ := h
  cases S with
  | none =>
    have e : ps = [] := h1
    subst e
    obtain ⟨z1, z2, z3⟩ := z
    exact ⟨[], rfl, I.call' (ch := []) z1 (Un.kept z3) (I.hok.kept z3) z2 fun b hb => by simp at hb⟩
  | some h =>
    obtain ⟨o, r, rfl⟩ := h1
    obtain ⟨eS, hS0, hSL, hSf, _⟩ := I.pin (h.S, o) (List.mem_append_right _ (List.mem_append_left _ (List.mem_singleton.mpr rfl)))
    have I0 : Inv G pa σ H s := I.pins_of fun p hp => I.pin p (List.mem_append_right _ (List.mem_append_right _ hp))
    have nt : ∀ b u, H b = some u → b ≠ h.S := fun b u q hb => by rw [hb] at q; rw [show H h.S = none from hS0] at q; cases q
    obtain ⟨z1, z2, z3, o', eS', r'⟩ := z
    obtain ⟨hh, g, d, t, os⟩ := s'
    have ho : os = s.os := z1
    subst ho
    have nc : ∀ b, b ∉ [h.S] → b ≠ h.S := fun b hb e => hb (by rw [e]; exact List.mem_singleton.mpr rfl)
    have J : Inv G pa σ H { s with heap := hh, gens := g, drawn := d, toks := t } := by
      refine I0.step (g' := g) (t' := t) (d' := d) (ch := [h.S]) (fun b hb => ?_)
        (fun b ob _ _ hc q _ => z3 b ob (nc b hc) q) (fun b ob _ _ hc q _ => ⟨ob.slots, z3 b ob (nc b hc) q⟩) (fun _ _ _ _ n => n) (fun b ob hc q => ⟨ob, z3 b ob (nc b hc) q⟩)
        (fun _ _ q => q) (fun _ _ _ q => q) (fun b ps q => ⟨#[], by rw [q]; simp⟩) (fun m hm => ?_) (fun b u q => ?_) z2
      · rw [List.mem_singleton.mp hb]
        refine ⟨.inr hA.1, hA.2.1, hA.2.2, fun p hp => ?_⟩
        rcases List.mem_append.mp hp with hp | hp
        · exact hpn p hp h rfl
        · exact hpa p hp h rfl
      · obtain ⟨ob, es, ep, ho, r⟩ := hm
        exact ⟨ob, es, ep, z3 _ ob (Ne.symm hSL) ho, r⟩
      · refine (I0.hok b u q).stay (fun c v hc y => z3 c v ?_ y) (fun _ y => y) fun _ _ y => y
        rcases hc with y | y
        · rw [y]; exact nt b u q
        · exact nt c _ y
    refine ⟨_, ⟨o', r', rfl⟩, J.pins_of fun p hp => ?_⟩
    rcases List.mem_append.mp hp with hp | hp
    · rw [List.mem_singleton.mp hp]
      exact ⟨eS', hS0, hSL, hSf, h.nocell _ _ r'⟩
    · exact J.pin p (List.mem_append_right _ hp)

/-- the consumer's object is as it was -/
def SameS : Option Hold → Shared → Shared → Prop
  | none, _, _ => True
  | some h, s₀, s => s.heap.get? h.S = s₀.heap.get? h.S
theorem sameS_of {G : Cx} {S : Option Hold} {pa : List (Addr × Obj)} {ys : List V} {ps q1 q2 : List (Addr × Obj)} {σ σ' : L2.St} {H H' : Hp} {s₀ s s' : Shared} (hps : PS S ys ps) (h0 : SameS S s₀ s) (I : Inv G (ps ++ pa ++ q1) σ H s) (I' : Inv G (ps ++ pa ++ q2) σ' H' s') : SameS S s₀ s' := by
  cases S with
  | none => exact True.intro
  | some h =>
    obtain ⟨o, _, rfl⟩ := hps
    have e1 := (I.pin (h.S, o) (List.mem_append_right _ (List.mem_append_left _ (List.mem_append_left _ (List.mem_singleton.mpr rfl))))).1
    have e2 := (I'.pin (h.S, o) (List.mem_append_right _ (List.mem_append_left _ (List.mem_append_left _ (List.mem_singleton.mpr rfl))))).1
    exact e2.trans (e1.symm.trans h0)
theorem SameS.refl (S : Option Hold) (s : Shared) : SameS S s s := by
  cases S with
  | none => exact True.intro
  | some h => exact rfl
/-- what is wanted: at the end, of an item (nx: what follows if the consumer goes on) -/
structure Wish where
  St : List V → Hp → Prop
  It : List V → V → Hp → Prop → Prop
  mono : ∀ ys y H p q, (p → q) → It ys y H p → It ys y H q

def YJ (G : Cx) (S : Option Hold) (pa : List (Addr × Obj)) (Z : Wish) (N0 : Nat) : Protocol := fun n s₀ v s kap =>
  ∃ ys y σ H, n + 1 + ys.length = N0 ∧ RelV y v ∧ SameS S s₀ s ∧ GJ G S pa ys σ H s ∧ Z.It ys y H (∀ s', Woke S ys y s s' → kap (.send .none) s')
def RJ (G : Cx) (S : Option Hold) (pa : List (Addr × Obj)) (Z : Wish) (N0 : Nat) : GenEnd := fun n s₀ r s =>
  ((r = .ok (.ret .none) ∨ r = .ok .next) ∧ ∃ ys σ H, n + ys.length = N0 ∧ SameS S s₀ s ∧ GJ G S pa ys σ H s ∧ Z.St ys H) ∨ ∃ e, r = .error e ∧ False

/-- the generator expression's promise: W by the turn, the items that are out, a measure -/
def Turns (J : It) (Z : Wish) (N0 : Nat) (g : TG) (tt : TT) (te : TE) (vs : List Nat) (σ : L2.St) (W : Nat → List V → Nat → Hp → Prop) : Prop :=
  ∀ i ys m H, W i ys m H → (J.stop i H ∧ Z.St ys H) ∨ (J.go i H ∧ ∃ Nx : List V → Hp → Prop, (∀ ys' H', Nx ys' H' → ∃ m', m' < m ∧ W (i + 1) ys' m' H') ∧
    ∀ x H', J.yld i H x H' → g x (wipe σ vs) H' fun σ2 H2 => wipe σ2 vs = wipe σ vs ∧ tt σ2 H2 fun b H3 =>
      if b = true then te σ2 H3 fun y H4 => ys.length < N0 ∧ Z.It ys y H4 (Nx (ys ++ [y]) H4) else Nx ys H3)

theorem seg_loop {X : Cx} {s0 : Shared} {H0 : Hp} {cenv : Env} {fp : List Addr} {scope : Scope} {own : List (Str × Nat)} {elt tg iter : Expr} {ifs : List Expr} {pos : Pos} {it : Addr} {tn : Nat → Heap → Prop} {J : It} {g : TG} {tt : TT} {te : TE} {B : Around} {S : Option Hold} {pa : List (Addr × Obj)} {Z : Wish} {N0 : Nat}
    {σ : L2.St} {W : Nat → List V → Nat → Hp → Prop} (hcalm : X.calm = true) (hco : cenv.scope.isCoroutine = false) (T : Turn X.prog X.w X.K tg J fp it tn) (A : Around) (hA : A = B.over (.compLoop (.GeneratorExp elt [⟨tg, iter, ifs, 0⟩] scope pos) 0 (.ref it) .none cenv) [])
    (pg : PG (gcx X s0 H0 cenv A fp) tg g) (pt : PTs (gcx X s0 H0 cenv A fp) ifs tt) (pe : PE (gcx X s0 H0 cenv A fp) elt te) (hap : ApartO (gcx X s0 H0 cenv A fp) S) (hpa : ∀ p ∈ pa, Not_ S p.1) (hpf : ∀ p ∈ pa, p.1 ∉ fp) (hSf : ∀ b ∈ fp, Not_ S b)
    (turn : Turns J Z N0 g tt te (own.map (·.2)) σ W) :
    ∀ (m i : Nat) (ys : List V) (n : Nat) (s₀ s : Shared) (H : Hp), W i ys m H → n + ys.length = N0 → SameS S s₀ s → GJ (gcx X s0 H0 cenv A fp) S pa ys (wipe σ (own.map (·.2))) H s → tn i s.heap → (∀ b ∈ fp, H b = none) →
      Seg (model X.prog X.w) B (RJ (gcx X s0 H0 cenv A fp) S pa Z N0) (YJ (gcx X s0 H0 cenv A fp) S pa Z N0) n s₀ (.compLoop (.GeneratorExp elt [⟨tg, iter, ifs, 0⟩] scope pos) 0 (.ref it) .none cenv)
        ((model X.prog X.w).den (.compLoop (.GeneratorExp elt [⟨tg, iter, ifs, 0⟩] scope pos) 0 (.ref it) .none cenv)) [] s := by
  intro m
  induction m using Nat.strongRecOn with
  | ind m ih =>
    intro i ys n s₀ s H w hn hs0 hG st hfp
    obtain ⟨ps, hps, I⟩ := hG
    -- where the iterator's objects stand
    have hf : ∀ {σ' : L2.St} {H' : Hp} {s' : Shared}, Inv (gcx X s0 H0 cenv A fp) (ps ++ pa) σ' H' s' → (∀ b ∈ fp, H' b = none) → ∀ b ∈ fp, FpOk (gcx X s0 H0 cenv A fp) (ps ++ pa) H' b := fun {σ' H' s'} I' hz b hb =>
      ⟨hz b hb, (I'.ok.exf b hb).1, I'.ok.exfs b hb, .inl hb, fun x c e => (I'.ok.exf b hb).2 x c e, fun p hp => by
        have hp : p ∈ ps ++ pa := hp
        rcases List.mem_append.mp hp with z | z
        · cases S with
          | none =>
            have e : ps = [] := hps
            rw [e] at z
            cases z
          | some h =>
            obtain ⟨o, _, e⟩ := hps
            rw [e] at z
            rw [List.mem_singleton.mp z]
            exact fun q => hSf b hb h rfl q.symm
        · exact fun q => hpf p z (by rw [q]; exact hb)⟩
    show Seg _ B _ _ n s₀ _ ((compTurn (.GeneratorExp elt [⟨tg, iter, ifs, 0⟩] scope pos) 0 (.ref it) .none cenv).onRaise (leaving cenv)) [] s
    rw [compTurn_gen, Sem.onRaise_eq_wrap]
    refine seg_bind_wrap (wpAny_standAt ?_)
    rcases turn i ys m H w with ⟨stop, qq⟩ | ⟨go, Nx, hNx, step⟩
    · have td := T.done (gcx X s0 H0 cenv A fp) rfl rfl rfl hcalm i (ps ++ pa) s _ H (fun _ _ => False) I (hf I hfp) st stop
      refine seg_bind_wrap ?_
      rw [← hA]
      refine thnF td fun r s6 ⟨hr, I6⟩ => ?_
      subst hr
      exact seg_end (.ok .next) (.inl ⟨.inr rfl, ys, _, H, hn, sameS_of (q1 := []) (q2 := []) hps hs0 (by rw [List.append_nil]; exact I) (by rw [List.append_nil]; exact I6), ⟨ps, hps, I6⟩, qq⟩)
    · have ti := T.item (gcx X s0 H0 cenv A fp) rfl rfl rfl hcalm i (ps ++ pa) s _ H (fun _ _ => False) I (hf I hfp) st go
      refine seg_bind_wrap ?_
      rw [← hA]
      refine thnF ti fun r s6 ⟨u, hr, h6⟩ => ?_
      subst hr
      refine seg_bind_wrap ?_
      rw [← hA]
      refine thnF h6 fun _ s7 ⟨x, H7, I7, r7, y7, st7, n7⟩ => ?_
      have I7' := I7.pinned (hf I7 n7) (T.obj _ _ st7)
      refine seg_bind_wrap ?_
      rw [← hA]
      refine thnF (pg.run _ s7 _ H7 x u _ I7' r7 (step x H7 y7)) fun _ s8 ⟨σ8, H8, I8, hw8, q8⟩ => ?_
      refine seg_bind_wrap ?_
      rw [← hA]
      refine thnF (pt.run _ s8 σ8 H8 _ I8 q8) fun b s9 ⟨H9, I9, q9⟩ => ?_
      have pin' : ∀ {s' : Shared} {H' : Hp}, Inv (gcx X s0 H0 cenv A fp) (ps ++ pa ++ pinsAt fp s7.heap) σ8 H' s' → (tn (i + 1) s'.heap ∧ ∀ b ∈ fp, H' b = none) := fun {s' H'} I' => by
        have pin' : ∀ b ∈ fp, ∀ o, s7.heap.get? b = some o → s'.heap.get? b = some o ∧ H' b = none := fun b hb o e =>
          let z := I'.pin (b, o) (List.mem_append_right _ (List.mem_append_right _ (mem_pinsAt hb e)))
          ⟨z.1, z.2.1⟩
        refine ⟨T.keep _ _ _ st7 fun b hb o e => (pin' b hb o e).1, fun b hb => ?_⟩
        obtain ⟨o, e, _⟩ := T.obj _ _ st7 b hb
        exact (pin' b hb o e).2
      have weak : ∀ {s' : Shared} {H' : Hp}, Inv (gcx X s0 H0 cenv A fp) (ps ++ pa ++ pinsAt fp s7.heap) σ8 H' s' → Inv (gcx X s0 H0 cenv A fp) (ps ++ pa) (wipe σ (own.map (·.2))) H' s' := fun {s' H'} I' => by
        have hl : (wipe σ (own.map (·.2))).length = σ8.length := by rw [← hw8, wipe_length]
        refine (I'.unpinned (pins := ps ++ pa)).weak hl fun j v e => ?_
        rw [← hw8] at e
        exact (wipe_some e).1
      cases b with
      | false =>
        simp only [Bool.false_eq_true, if_false] at q9 ⊢
        obtain ⟨m', hm, w'⟩ := hNx ys H9 q9
        obtain ⟨t1, t2⟩ := pin' I9
        exact seg_again rfl (ih m' hm (i + 1) ys n s₀ s9 H9 w' hn (sameS_of (q1 := []) hps hs0 (by rw [List.append_nil]; exact I) I9) ⟨ps, hps, weak I9⟩ t1 t2)
      | true =>
        simp only [if_true] at q9 ⊢
        have hy : ∀ v, yieldOut cenv v = yieldValue v := fun v => by simp only [yieldOut, hco, Bool.false_eq_true, if_false]
        simp only [hy]
        rw [Sem.bind_eq_wrap', Sem.bind_eq_wrap', Sem.wrap_wrap, Sem.wrap_wrap]
        refine seg_wrap ?_
        rw [← hA]
        refine thnF (pe.run _ s9 σ8 H9 _ I9 q9) fun z s10 ⟨yv, H10, I10, r10, hlt, nx⟩ => ?_
        obtain ⟨t1, t2⟩ := pin' I10
        have hG10 : GJ (gcx X s0 H0 cenv A fp) S pa ys (wipe σ (own.map (·.2))) H10 s10 := ⟨ps, hps, weak I10⟩
        obtain ⟨n', rfl⟩ : ∃ n', n = n' + 1 := ⟨n - 1, by omega⟩
        refine seg_at (seg_yield rfl rfl rfl ⟨ys, yv, _, H10, by omega, r10, sameS_of (q1 := []) hps hs0 (by rw [List.append_nil]; exact I) I10, hG10, Z.mono _ _ _ _ _ (fun nx s' hw => ?_) nx⟩)
        obtain ⟨m', hm, w'⟩ := hNx (ys ++ [yv]) H10 nx
        refine seg_again rfl (ih m' hm (i + 1) (ys ++ [yv]) n' s' s' H10 w' (by rw [List.length_append]; simp only [List.length_cons, List.length_nil]; omega) (SameS.refl _ _) (hG10.woken (fun p hp => absurd (show p ∈ ([] : List (Addr × Obj)) from hp) (by simp)) hpa hap hw) ?_ t2)
        refine T.keep _ _ _ t1 fun b hb o e => ?_
        cases S with
        | none => exact hw.2.2 b o e
        | some h => exact hw.2.2.1 b o (hSf b hb h rfl) e
end GX
namespace GX
open PySem PySem.Spec PyProof.Rows L2 GenW GxR

theorem seg_start {X : Cx} {s0 : Shared} {H0 : Hp} {cenv : Env} {fp : List Addr} {scope : Scope} {own : List (Str × Nat)} {elt tg iter : Expr} {ifs : List Expr} {pos : Pos} {it : Addr} {tn : Nat → Heap → Prop} {J : It} {g : TG} {tt : TT} {te : TE} {B : Around} {S : Option Hold} {pa : List (Addr × Obj)} {Z : Wish} {N0 : Nat}
    {σ : L2.St} {W : Nat → List V → Nat → Hp → Prop} (hcalm : X.calm = true) (hco : cenv.scope.isCoroutine = false) (T : Turn X.prog X.w X.K tg J fp it tn) (A : Around) (hA : A = B.over (.compLoop (.GeneratorExp elt [⟨tg, iter, ifs, 0⟩] scope pos) 0 (.ref it) .none cenv) [])
    (pg : PG (gcx X s0 H0 cenv A fp) tg g) (pt : PTs (gcx X s0 H0 cenv A fp) ifs tt) (pe : PE (gcx X s0 H0 cenv A fp) elt te) (hap : ApartO (gcx X s0 H0 cenv A fp) S) (hpa : ∀ p ∈ pa, Not_ S p.1) (hpf : ∀ p ∈ pa, p.1 ∉ fp) (hSf : ∀ b ∈ fp, Not_ S b)
    (turn : Turns J Z N0 g tt te (own.map (·.2)) σ W) (m : Nat) (s₀ s : Shared) (H : Hp) (w : W 0 [] m H) (hs0 : SameS S s₀ s) (hG : GJ (gcx X s0 H0 cenv A fp) S pa [] (wipe σ (own.map (·.2))) H s) (st : tn 0 s.heap) (hfp : ∀ b ∈ fp, H b = none) :
      Seg (model X.prog X.w) B (RJ (gcx X s0 H0 cenv A fp) S pa Z N0) (YJ (gcx X s0 H0 cenv A fp) S pa Z N0) N0 s₀ (.compStart (.GeneratorExp elt [⟨tg, iter, ifs, 0⟩] scope pos) 0 (.ref it) .none cenv)
        ((model X.prog X.w).den (.compStart (.GeneratorExp elt [⟨tg, iter, ifs, 0⟩] scope pos) 0 (.ref it) .none cenv)) [] s := by
  have loop := seg_loop hcalm hco T A hA pg pt pe hap hpa hpf hSf turn m 0 [] N0 s₀ s H w (Nat.add_zero _) hs0 hG st hfp
  show Seg _ B _ _ N0 s₀ _ ((compStart (.GeneratorExp elt [⟨tg, iter, ifs, 0⟩] scope pos) 0 (.ref it) .none cenv).onRaise (leaving cenv)) [] s
  unfold compStart
  rw [Sem.onRaise_eq_wrap]
  show Seg _ B _ _ N0 s₀ _ ((ask >>= _).wrap _ _ _ _) [] s
  refine seg_bind_wrap (wpAny_askSetting ?_)
  split
  · exact seg_again rfl loop
  · first
      | exact seg_bind_wrap (wpAny_rule (seg_bind_wrap (wpAny_standAt (seg_bind_wrap (T.self _ 0 s _ _ st (seg_again rfl loop))))))
      | (refine seg_bind_wrap (wpAny_rule ?_); show Seg _ B _ _ N0 s₀ _ ((standAt iter.pos >>= _).wrap _ _ _ _) [] s; exact seg_bind_wrap (wpAny_standAt (seg_bind_wrap (T.self _ 0 s _ _ st (seg_again rfl loop)))))

/-- a generator has been made and has not begun -/
structure Made (X : Cx) (pins : List (Addr × Obj)) (σ : L2.St) (elt tg iter : Expr) (ifs : List Expr) (scope : Scope) (pos : Pos) (P : Addr) (R : It → Hp → Prop) (a : Addr) (s4 : Shared) (gid : Nat) (cenv : Env) (fp : List Addr) (it : Addr) (tn : Nat → Heap → Prop) (J : It) (sc : Shared) (Hc : Hp) (go : Obj) (m : Str → Option Value) : Prop where
  inv : Inv X pins σ Hc sc
  keep : ∀ b o, sc.heap.get? b = some o → s4.heap.get? b = some o
  young : sc.heap.objs.size ≤ cenv.locals
  above : cenv.locals < a
  lt : a < s4.heap.objs.size
  obj : s4.heap.get? a = some go
  isgen : ∀ h : Heap, h.get? a = some go → h.IsGen a gid
  nocell : ∀ v, go.data ≠ .cell v
  fresh : s4.gens[gid]? = some (.fresh (.compStart (.GeneratorExp elt [⟨tg, iter, ifs, 0⟩] scope pos) 0 (.ref it) .none cenv))
  os : s4.os = sc.os
  bare : AllBare s4.gens
  lim : s4.heap.NoLimit
  ns : s4.heap.Ns cenv.locals m
  gen : ∃ cl C code bi, cenv = genEnv scope cl C code bi X.env
  sc_ : cenv.scope = scope
  cl : cenv.cells = cloFrom X.env.cells scope.names []
  gl : cenv.globals = X.env.globals
  bi : cenv.builtins = builtinsNs
  fr : cenv.frame = some cenv.locals
  turn : Turn X.prog X.w X.K tg J fp it tn
  st : tn 0 sc.heap
  fps : ∀ b ∈ fp, FpOk X pins Hc b ∧ b < sc.heap.objs.size
  res : ∃ H1, Tabbed P H1 Hc ∧ R J H1

section
variable {X : Cx} {pins : List (Addr × Obj)} {σ : L2.St} {H : Hp} {s : Shared}
theorem gen_make {c P : Addr} {elt tg iter : Expr} {ifs : List Expr} {scope : Scope} {own : List (Str × Nat)} {pos : Pos} {wi : TI} {k : Nat} {R : It → Hp → Prop} {Q' : Value → Shared → Prop}
    (hr : Room k X.A) (TB : TabB X.base X.mg c P) (hcode : X.env.code = .ref c) (ok : GenOk X.N X.env.scope scope own) (hi : PI X tg iter wi)
    (hs : ∀ v, genFold iter X.env v = pure v) (I : Inv X pins σ H s) (h : wi σ H fun J H1 => TabG H1 P ∧ R J H1)
    (hQ : ∀ a s4 gid cenv fp it tn J sc Hc go m, Made X pins σ elt tg iter ifs scope pos P R a s4 gid cenv fp it tn J sc Hc go m → Q' (.ref a) s4) :
    wpAny (model X.prog X.w) X.A (eval (.GeneratorExp elt [⟨tg, iter, ifs, 0⟩] scope pos) X.env) Q' X.xe s := by
  have hfree : ∀ y ∈ scope.names, y.2 = .free → ∃ c, X.env.cells.lookup y.1 = some c := fun y hy e => by
    rcases ok.free y hy e with k | k
    · exact I.ok.has _ (.inl k)
    · exact I.ok.has _ (.inr k)
  refine wpAny_GeneratorExp_make ok.co (closure_ok hfree) ok.cell ok.dot ok.kind (by have := hr.dp; omega) (thn (hi.run pins s σ H _ I h) fun xv s1 hx => thn hx fun itv s2 h2 => ?_) hs
  obtain ⟨it, fp, tn, J, H1, rfl, I1, T, st2, f2, ⟨ps, hP, ht⟩, q1⟩ := h2
  refine ⟨I1.nolimit, ?_⟩
  have hPs : s2.heap.get? P = some { cls := .none, data := .fields ps } := I1.hok P _ hP
  have cd : PySem.W.CodeHd s2.heap c P := TB.code.keeps fun b u e => (I1.bs b u e).1
  have szf : ∀ b ∈ fp, b < s2.heap.objs.size := fun b hb => by
    obtain ⟨o, e, _⟩ := T.obj _ _ st2 b hb
    exact Heap.lt_size e
  have fpP : ∀ b ∈ fp, b ≠ P := fun b hb e => by
    have := (f2 b hb).1
    rw [e, hP] at this
    cases this
  have cont : ∀ (code : Value) (h3 : Heap) (tk : Nat) (ps' : Array Value), Heap.ExtBut P s2.heap h3 → s2.heap.objs.size ≤ h3.objs.size → h3.get? P = some { cls := .none, data := .fields ps' } → (∃ more, ps' = ps ++ more) → TriplesOk ps'.toList →
      wpAny (model X.prog X.w) X.A (builtinsFor X.env.globals X.env.builtins) (fun bi s₄ =>
        ∀ h', h'.Ns s₄.heap.objs.size (fun y => if y = ".0" then some (.ref it) else none) → Heap.SameBut s₄.heap.objs.size (s₄.heap.push { cls := .type "frame", data := .dict #[] }) h' →
          Q' (.ref h'.objs.size) { s₄ with
            gens := s₄.gens.push (.fresh (.compStart (.GeneratorExp elt [⟨tg, iter, ifs, 0⟩] scope pos) 0 (.ref it) .none (genEnv scope (cloFrom X.env.cells scope.names []) s₄.heap.objs.size code bi X.env))),
            toks := s₄.toks + 1 + 1 + 1,
            heap := h'.push { cls := .type "generator", data := .fields #[.int s₄.gens.size 0, .str "<genexpr>" (s₄.toks + 1), .str (X.env.qual ++ "<genexpr>") (s₄.toks + 1 + 1)] } }) X.xe { s2 with heap := h3, toks := tk } := by
    intro code h3 tk ps' hx hsz hP3 hmore ht3
    obtain ⟨bm, ob, e1, e2, e3, e4, e5, e6, e7, e8⟩ := TB.bm
    have keep3 : ∀ b u, b ≠ P → s2.heap.get? b = some u → h3.get? b = some u := fun b u hb e => hx b u hb e
    refine wpAny_builtinsFor (m := X.mg) (by rw [I1.ok.glob]; exact (I1.mod.glob.keeps I1.bk).extBut hx TB.gP) e1 e2 (keep3 _ _ e4 (I1.bk _ _ e5)) e6 e7 e8 ?_
    intro h' hn' hs'
    obtain ⟨more, em⟩ := hmore
    have J3 := inv_tab (more := more) (h' := h3) (g' := s2.gens) (d' := s2.drawn) (t' := tk) I1 hP (fun b u hb e => keep3 b u hb e) (by rw [← em]; exact hP3) I1.bare
    have hsz4 : h'.objs.size = h3.objs.size + 1 := by rw [hs'.1, Heap.size_push]
    have keep' : ∀ b o, h3.get? b = some o → h'.get? b = some o := fun b o e => hs'.extBut b o (Nat.ne_of_lt (Heap.lt_size e)) (Heap.get?_push_of_some _ e)
    have lim3 : h3.NoLimit := J3.nolimit
    refine hQ h'.objs.size _ s2.gens.size (genEnv scope (cloFrom X.env.cells scope.names []) h3.objs.size code builtinsNs X.env) fp it tn J { s2 with heap := h3, toks := tk } (upd H1 P (.tbl (ps ++ more))) { cls := .type "generator", data := .fields #[.int s2.gens.size 0, .str "<genexpr>" (tk + 1), .str (X.env.qual ++ "<genexpr>") (tk + 1 + 1)] } (fun y => if y = ".0" then some (.ref it) else none) ?_
    exact {
      inv := J3
      keep := fun b o e => Heap.get?_push_of_some _ (keep' b o e)
      young := Nat.le_refl _
      above := by show h3.objs.size < h'.objs.size; omega
      lt := by rw [Heap.size_push]; exact Nat.lt_succ_self _
      obj := Heap.get?_push_size _ rfl
      isgen := fun h e => ⟨_, _, _, e, rfl, rfl, rfl⟩
      nocell := fun v q => by cases q
      fresh := Array.getElem?_push_size ..
      os := rfl
      bare := I1.bare.push rfl
      lim := lim3.keeps fun b o e => Heap.get?_push_of_some _ (keep' b o e)
      ns := hn'.push _
      gen := ⟨_, _, _, _, rfl⟩
      sc_ := rfl
      cl := rfl
      gl := rfl
      bi := rfl
      fr := rfl
      turn := T
      st := T.keep _ _ _ st2 fun b hb o e => keep3 b o (fpP b hb) e
      fps := fun b hb => ⟨⟨by rw [upd_ne (fpP b hb)]; exact (f2 b hb).1, (f2 b hb).2⟩, Nat.lt_of_lt_of_le (szf b hb) hsz⟩
      res := ⟨H1, ⟨⟨ps ++ more, upd_same, by rw [← em]; exact ht3⟩, fun b hb => upd_ne hb⟩, q1⟩ }
  cases hf : codeAmong pos ps.toList with
  | none =>
    refine wpAny_genexprCodeX hcode (cd.code hPs ht) (cd.tab hPs) hf fun c' h' tk hx hge hlt hco' _ htab' _ => ?_
    obtain ⟨o1, vs, f1, tf, fl, tg', inF, tx, tt, op, _, _, _, _, _, _, _, _, _, htr, _⟩ := hco'
    exact cont _ h' tk _ hx (Nat.le_trans hge (Nat.le_of_lt hlt)) htab'.2 ⟨_, rfl⟩ htr
  | some cv =>
    refine wpAny_genexprCode_hit hcode (cd.code hPs ht) hf ?_
    exact cont cv s2.heap s2.toks ps (Heap.ExtBut.refl _ _) (Nat.le_refl _) hPs ⟨#[], by simp⟩ ht
end
end GX
namespace GX
open PySem PySem.Spec PyProof.Rows L2 GenW GxR

/-- asleep, n items at most to come -/
def Asleep (X : Cx) (G : Cx) (S : Option Hold) (pa : List (Addr × Obj)) (Z : Wish) (N0 : Nat) (B : Around) (a : Addr) (gid n : Nat) (s : Shared) : Prop :=
  s.heap.IsGen a gid ∧ s.heap.NoLimit ∧ ∃ gs, s.gens[gid]? = some gs ∧ gs.Goes (model X.prog X.w) B (RJ G S pa Z N0) (YJ G S pa Z N0) n (.send .none) (s.setGen gid .running)
theorem sameS_set {S : Option Hold} {s s1 : Shared} {g : Nat} {x : GenState} (h : SameS S (s.setGen g x) s1) : SameS S s s1 := by
  cases S with
  | none => exact True.intro
  | some h' => exact h
theorem next_gx {X G : Cx} {S : Option Hold} {pa : List (Addr × Obj)} {Z : Wish} {N0 : Nat} {A' : Around} {a : Addr} {gid n : Nat} {s : Shared} {Q : Option Value → Shared → Prop} {E : Value → Shared → Prop} (hh : A'.handled = none) (hroom : A'.depth < recursionLimit) (h : Asleep X G S pa Z N0 A'.in1 a gid n s)
    (hY : ∀ v s1 gs' ys y σ H, gs'.bare = true → n - 1 + 1 + ys.length = N0 → RelV y v → SameS S s s1 → GJ G S pa ys σ H s1 →
      Z.It ys y H (∀ s', Woke S ys y s1 s' → ∃ m, n = m + 1 ∧ gs'.Goes (model X.prog X.w) A'.in1 (RJ G S pa Z N0) (YJ G S pa Z N0) m (.send .none) s') → Q (some v) (s1.setGen gid gs'))
    (hP : ∀ s1 ys σ H, n + ys.length = N0 → SameS S s s1 → GJ G S pa ys σ H s1 → Z.St ys H → ∀ h', (∀ b o, s1.heap.get? b = some o → h'.get? b = some o) → Q none { s1.setGen gid .finished with heap := h' }) :
    wpAny (model X.prog X.w) A' (pyNext (.ref a)) Q E s := by
  obtain ⟨h1, h2, gs, h3, h4⟩ := h
  refine next_genG (F := fun n s₀ s => ∃ (ys : List V) (σ : L2.St) (H : Hp), n + ys.length = N0 ∧ SameS S s₀ s ∧ GJ G S pa ys σ H s ∧ Z.St ys H) (Er := fun _ _ => False) hh h2 hroom h1 h3 h4 (fun v s1 gs' hb hv => ?_) (fun s1 hp h' hk => ?_) fun e s1 he => he.elim
  · obtain ⟨ys, y, σ, H, q1, q2, q0, q3, q4⟩ := hv
    refine hY v s1 gs' ys y σ H hb q1 q2 (sameS_set q0) q3 (Z.mono _ _ _ _ _ (fun nx s' hw => ?_) q4)
    have := nx s' hw
    cases n with
    | zero => exact this.elim
    | succ m => exact ⟨m, rfl, this⟩
  · obtain ⟨ys, σ, H, q1, q0, q2, q3⟩ := hp
    exact hP s1 ys σ H q1 (sameS_set q0) q2 q3 h' hk
theorem setGen_get {s : Shared} {g : Nat} {x : GenState} (h : g < s.gens.size) : (s.setGen g x).gens[g]? = some x := by
  show (s.gens.setIfInBounds g x)[g]? = some x
  simp [h]
/-- the consumer's context again -/
theorem Made.back {X : Cx} {pins : List (Addr × Obj)} {σ : L2.St} {elt tg iter : Expr} {ifs : List Expr} {scope : Scope} {pos : Pos} {P : Addr} {R : It → Hp → Prop} {a : Addr} {s4 : Shared} {gid : Nat} {cenv : Env} {fp : List Addr} {it : Addr} {tn : Nat → Heap → Prop} {J : It} {sc : Shared} {Hc : Hp} {go : Obj} {m : Str → Option Value}
    (M : Made X pins σ elt tg iter ifs scope pos P R a s4 gid cenv fp it tn J sc Hc go m) {A : Around} {ps : List (Addr × Obj)} {σ' : L2.St} {H' : Hp} {s1 s2 : Shared} (I : Inv (gcx X sc Hc cenv A fp) ps σ' H' s1) (hos : s2.os = s1.os) (hb : AllBare s2.gens) (hk : ∀ b o, s1.heap.get? b = some o → s2.heap.get? b = some o) : Inv X pins σ H' s2 :=
  M.inv.call' (ch := fp) (hos.trans I.os) (I.base.trans (Un.kept hk)) (I.hok.kept hk) hb fun b hb => ⟨(M.fps b hb).1.2.2.2.1, (M.fps b hb).1.2.1, (M.fps b hb).1.2.2.2.2.1, (M.fps b hb).1.2.2.2.2.2⟩
theorem Made.begin {X : Cx} {pins : List (Addr × Obj)} {σ : L2.St} {elt tg iter : Expr} {ifs : List Expr} {scope : Scope} {own : List (Str × Nat)} {pos : Pos} {P : Addr} {R : It → Hp → Prop} {a : Addr} {s4 : Shared} {gid : Nat} {cenv : Env} {fp : List Addr} {it : Addr} {tn : Nat → Heap → Prop} {J : It} {sc : Shared} {Hc : Hp} {go : Obj} {m : Str → Option Value}
    (M : Made X pins σ elt tg iter ifs scope pos P R a s4 gid cenv fp it tn J sc Hc go m) (ok : GenOk X.N X.env.scope scope own) (hN : X.N.Nodup) {A : Around} (hA : A.frames = some (cenv :: X.stack)) (hc : X.calm = true → A.handled = none) :
    Inv (gcx X sc Hc cenv A fp) [(a, go)] (wipe σ (own.map (·.2))) Hc s4 := by
  have I := gen_start (A := A) M.inv ok hN hc M.fps M.sc_ rfl M.cl M.gl M.bi M.fr hA M.young M.keep M.ns M.os M.bare
  refine I.pins_of fun p hp => ?_
  rw [List.mem_singleton.mp hp]
  have hge : sc.heap.objs.size ≤ a := Nat.le_trans M.young (Nat.le_of_lt M.above)
  refine ⟨M.obj, M.inv.hok.fresh hge, Nat.ne_of_gt M.above, fun hb => ?_, M.nocell⟩
  rcases List.mem_cons.mp (M.inv.stkSub a hb) with z | z
  · exact Nat.ne_of_gt (Nat.lt_of_lt_of_le M.inv.lt hge) z
  · exact M.inv.nofs hge z
theorem Asleep.go {X G : Cx} {S : Option Hold} {pa : List (Addr × Obj)} {Z : Wish} {N0 : Nat} {B : Around} {a : Addr} {gid n : Nat} {s : Shared} {gs : GenState} (h1 : s.heap.IsGen a gid) (h2 : s.heap.NoLimit) (h3 : s.gens[gid]? = some gs)
    (h4 : gs.Goes (model X.prog X.w) B (RJ G S pa Z N0) (YJ G S pa Z N0) n (.send .none) (s.setGen gid .running)) : Asleep X G S pa Z N0 B a gid n s := ⟨h1, h2, gs, h3, h4⟩

theorem over_gen {A : Around} {elt : Expr} {gs : List Comprehension} {scope : Scope} {pos : Pos} {it acc : Value} {env : Env} : A.over (.compLoop (.GeneratorExp elt gs scope pos) 0 it acc env) [] = A.deeper env := by
  first
    | rfl
    | (obtain ⟨hd, d, fr, gs, u⟩ := A; simp [Around.over, Around.deeper, marksOver, frameCount, unitsOf, envsOf, guardsOf, pushEnvs, pushGuards, Code.envs, Code.env?, Code.isFrame, Code.guards, Code.isGuard, Code.weight, Code.frames, Code.isCreation, Code.isCaller, Code.cUnits])
/-- what the parts of a generator expression promise, in each of its frames -/
structure Parts (X : Cx) (k : Nat) (tg elt : Expr) (ifs : List Expr) (scope : Scope) (g : TG) (tt : TT) (te : TE) : Prop where
  tgt : ∀ (s : Shared) (H : Hp) (C : Addr) (cl : List (Str × Addr)) (code : Value) (bi : Addr) (A : Around) (fp : List Addr), Room k A → PG (gcx X s H (genEnv scope cl C code bi X.env) A fp) tg g
  tst : ∀ (s : Shared) (H : Hp) (C : Addr) (cl : List (Str × Addr)) (code : Value) (bi : Addr) (A : Around) (fp : List Addr), Room k A → PTs (gcx X s H (genEnv scope cl C code bi X.env) A fp) ifs tt
  elm : ∀ (s : Shared) (H : Hp) (C : Addr) (cl : List (Str × Addr)) (code : Value) (bi : Addr) (A : Around) (fp : List Addr), Room k A → PE (gcx X s H (genEnv scope cl C code bi X.env) A fp) elt te
/-- asleep, before its first turn; no object of the consumer's stands beside it -/
theorem Made.asleep {X : Cx} {pins : List (Addr × Obj)} {σ : L2.St} {elt tg iter : Expr} {ifs : List Expr} {scope : Scope} {own : List (Str × Nat)} {pos : Pos} {P : Addr} {R : It → Hp → Prop} {a : Addr} {s4 : Shared} {gid : Nat} {cenv : Env} {fp : List Addr} {it : Addr} {tn : Nat → Heap → Prop} {J : It} {sc : Shared} {Hc : Hp} {go : Obj} {m : Str → Option Value}
    (M : Made X pins σ elt tg iter ifs scope pos P R a s4 gid cenv fp it tn J sc Hc go m) (ok : GenOk X.N X.env.scope scope own) (hN : X.N.Nodup) (hcalm : X.calm = true) {k : Nat} {g : TG} {tt : TT} {te : TE} (hp : Parts X k tg elt ifs scope g tt te) {B : Around} (hB : Room (k + 1) B) (hfr : B.frames = some X.stack)
    {Z : Wish} {N0 : Nat} {W : Nat → List V → Nat → Hp → Prop} (turn : Turns J Z N0 g tt te (own.map (·.2)) σ W) {mm : Nat} (w : W 0 [] mm Hc) :
    Asleep X (gcx X sc Hc cenv (B.deeper cenv) fp) none [(a, go)] Z N0 B a gid N0 s4 := by
  have hA : B.deeper cenv = B.over (.compLoop (.GeneratorExp elt [⟨tg, iter, ifs, 0⟩] scope pos) 0 (.ref it) .none cenv) [] := over_gen.symm
  have hAf : (B.deeper cenv).frames = some (cenv :: X.stack) := Around.frames_deeper hfr
  have rA : Room k (B.deeper cenv) := hB.deeper cenv
  have I := M.begin (A := B.deeper cenv) ok hN hAf fun _ => rA.hd
  obtain ⟨cl, C, code, bi, hg⟩ := M.gen
  have fpa : ∀ p ∈ [(a, go)], p.1 ∉ fp := fun p hp hb => by
    rw [List.mem_singleton.mp hp] at hb
    have h1 := (M.fps a hb).2
    have h2 := M.young
    have h3 := M.above
    exact absurd (Nat.lt_trans (Nat.lt_of_lt_of_le h1 h2) h3) (Nat.lt_irrefl _)
  refine ⟨M.isgen _ M.obj, M.lim, _, M.fresh, rfl, ?_⟩
  have st4 : tn 0 s4.heap := M.turn.keep _ _ _ M.st fun b hb o e => M.keep b o e
  have hpg := hp.tgt sc Hc C cl code bi (B.deeper cenv) fp rA
  have hpt := hp.tst sc Hc C cl code bi (B.deeper cenv) fp rA
  have hpe := hp.elm sc Hc C cl code bi (B.deeper cenv) fp rA
  rw [← hg] at hpg hpt hpe
  refine seg_start (S := none) (own := own) (g := g) (tt := tt) (te := te) (σ := σ) (W := W) (J := J) hcalm (by rw [M.sc_]; exact ok.co) M.turn (B.deeper cenv) hA hpg hpt hpe True.intro (fun p hp a ha => by cases ha) fpa (fun b hb a ha => by cases ha) turn mm (s4.setGen gid .running) (s4.setGen gid .running) Hc w (SameS.refl _ _) ?_ st4 fun b hb => (M.fps b hb).1.1
  exact ⟨[], rfl, I.call' (s' := s4.setGen gid .running) (ch := []) rfl (Un.kept fun _ _ e => e) (I.hok.kept fun _ _ e => e) (allBare_setGen M.bare rfl) fun b hb => by simp at hb⟩

/-! ### any, all -/
/-- what any(..) wants: Qt behind the first True, Qf at the end -/
def zAny (Qt Qf : Hp → Prop) : Wish := ⟨fun _ H => Qf H, fun _ y H nx => ∃ b, y = .bl b ∧ (if b = true then Qt H else nx), fun _ _ _ _ _ h ⟨b, e, q⟩ => ⟨b, e, by cases b with | true => exact q | false => exact h q⟩⟩
def zAll (Qt Qf : Hp → Prop) : Wish := ⟨fun _ H => Qt H, fun _ y H nx => ∃ b, y = .bl b ∧ (if b = true then nx else Qf H), fun _ _ _ _ _ h ⟨b, e, q⟩ => ⟨b, e, by cases b with | true => exact h q | false => exact q⟩⟩
theorem any_loop {X G : Cx} {a : Addr} {gid : Nat} {go : Obj} {Qt Qf : Hp → Prop} {N0 : Nat} {A' : Around} {R : Result → Shared → Prop} (hh : A'.handled = none) (hroom : A'.depth < recursionLimit) (hgo : ∀ h : Heap, h.get? a = some go → h.IsGen a gid)
    (hR : ∀ b s1 ps σ H s2, Inv G (ps ++ [(a, go)]) σ H s1 → (if b = true then Qt H else Qf H) → s2.os = s1.os → AllBare s2.gens → (∀ b o, s1.heap.get? b = some o → s2.heap.get? b = some o) → R (.ok (.ret (.bool b))) s2) :
    ∀ (n : Nat) (s : Shared), Asleep X G none [(a, go)] (zAny Qt Qf) N0 A'.in1.in1 a gid n s → gid < s.gens.size → codeAny (model X.prog X.w) A' (.builtin "any.loop" ⟨[.ref a], []⟩) R s := by
  intro n
  induction n using Nat.strongRecOn with
  | ind n ih =>
    intro s h hlt
    refine codeAny_builtin F.entry_any_loop ?_
    rw [Around.under_plainId F.plain_any_loop _]
    show wpAny _ A'.in1 (pyNext (.ref a) >>= _) _ _ s
    refine wpAny_bind (wpAny_gsz (n := gid + 1) hlt (next_gx (A' := A'.in1) hh hroom h (fun v s1 gs' ys y σ H hb hn r hs0 hG hI => ?_) fun s1 ys σ H hn hs0 hG hq h' hk => ?_))
    · intro hsz
      have hsz1 : gid < s1.gens.size := by
        have q : (s1.setGen gid gs').gens.size = s1.gens.size := setGen_size _ _ _
        omega
      obtain ⟨b, rfl, q⟩ := hI
      obtain rfl : v = Value.bool b := r
      refine wpAny_bind (wpAny_holding (wpAny_truthy_bool ?_))
      refine wpAny_bind (wpAny_letGo ?_)
      obtain ⟨ps, hps, I⟩ := hG
      have hg1 : s1.heap.get? a = some go := (I.pin (a, go) (List.mem_append_right _ (List.mem_append_right _ (List.mem_singleton.mpr rfl)))).1
      cases b with
      | false =>
        simp only [Bool.false_eq_true, if_false] at q ⊢
        refine wpAny_pure ⟨plainId_quiet F.plain_any_loop _, ?_⟩
        obtain ⟨m, rfl, hgo2⟩ := q ((s1.setGen gid gs').setGen gid .running) ⟨rfl, allBare_setGen (allBare_setGen I.bare hb) rfl, fun _ _ e => e⟩
        exact ih m (by omega) (s1.setGen gid gs') ⟨hgo _ hg1, I.nolimit, gs', setGen_get hsz1, hgo2⟩ (by rw [setGen_size]; exact hsz1)
      | true =>
        simp only [if_true] at q ⊢
        refine wpAny_bind (wpAny_rule (wpAny_pure ?_))
        exact hR true s1 ps σ H _ I q rfl (allBare_setGen I.bare hb) fun _ _ e => e
    · intro _
      obtain ⟨ps, hps, I⟩ := hG
      refine wpAny_bind (wpAny_rule (wpAny_pure ?_))
      exact hR false s1 ps σ H _ I hq rfl (allBare_setGen I.bare rfl) hk
theorem all_loop {X G : Cx} {a : Addr} {gid : Nat} {go : Obj} {Qt Qf : Hp → Prop} {N0 : Nat} {A' : Around} {R : Result → Shared → Prop} (hh : A'.handled = none) (hroom : A'.depth < recursionLimit) (hgo : ∀ h : Heap, h.get? a = some go → h.IsGen a gid)
    (hR : ∀ b s1 ps σ H s2, Inv G (ps ++ [(a, go)]) σ H s1 → (if b = true then Qt H else Qf H) → s2.os = s1.os → AllBare s2.gens → (∀ b o, s1.heap.get? b = some o → s2.heap.get? b = some o) → R (.ok (.ret (.bool b))) s2) :
    ∀ (n : Nat) (s : Shared), Asleep X G none [(a, go)] (zAll Qt Qf) N0 A'.in1.in1 a gid n s → gid < s.gens.size → codeAny (model X.prog X.w) A' (.builtin "all.loop" ⟨[.ref a], []⟩) R s := by
  intro n
  induction n using Nat.strongRecOn with
  | ind n ih =>
    intro s h hlt
    refine codeAny_builtin F.entry_all_loop ?_
    rw [Around.under_plainId F.plain_all_loop _]
    show wpAny _ A'.in1 (pyNext (.ref a) >>= _) _ _ s
    refine wpAny_bind (wpAny_gsz (n := gid + 1) hlt (next_gx (A' := A'.in1) hh hroom h (fun v s1 gs' ys y σ H hb hn r hs0 hG hI => ?_) fun s1 ys σ H hn hs0 hG hq h' hk => ?_))
    · intro hsz
      have hsz1 : gid < s1.gens.size := by
        have q : (s1.setGen gid gs').gens.size = s1.gens.size := setGen_size _ _ _
        omega
      obtain ⟨b, rfl, q⟩ := hI
      obtain rfl : v = Value.bool b := r
      refine wpAny_bind (wpAny_holding (wpAny_truthy_bool ?_))
      refine wpAny_bind (wpAny_letGo ?_)
      obtain ⟨ps, hps, I⟩ := hG
      have hg1 : s1.heap.get? a = some go := (I.pin (a, go) (List.mem_append_right _ (List.mem_append_right _ (List.mem_singleton.mpr rfl)))).1
      cases b with
      | true =>
        simp only [if_true] at q ⊢
        refine wpAny_pure ⟨plainId_quiet F.plain_all_loop _, ?_⟩
        obtain ⟨m, rfl, hgo2⟩ := q ((s1.setGen gid gs').setGen gid .running) ⟨rfl, allBare_setGen (allBare_setGen I.bare hb) rfl, fun _ _ e => e⟩
        exact ih m (by omega) (s1.setGen gid gs') ⟨hgo _ hg1, I.nolimit, gs', setGen_get hsz1, hgo2⟩ (by rw [setGen_size]; exact hsz1)
      | false =>
        simp only [Bool.false_eq_true, if_false] at q ⊢
        refine wpAny_bind (wpAny_rule (wpAny_pure ?_))
        exact hR false s1 ps σ H _ I q rfl (allBare_setGen I.bare hb) fun _ _ e => e
    · intro _
      obtain ⟨ps, hps, I⟩ := hG
      refine wpAny_bind (wpAny_rule (wpAny_pure ?_))
      exact hR true s1 ps σ H _ I hq rfl (allBare_setGen I.bare rfl) hk
/-- any(elt for tg in iter if ..): P the def's table of code objects -/
def tAnyG (P : Addr) (wi : TI) (g : TG) (tt : TT) (te : TE) (vs : List Nat) : TE := fun σ H Q => wi σ H fun J H1 => TabG H1 P ∧ ∀ Hc, Tabbed P H1 Hc →
  ∃ N0 W, (∃ m, W 0 [] m Hc) ∧ Turns J (zAny (fun H' => Q (.bl true) H') (fun H' => Q (.bl false) H')) N0 g tt te vs σ W
def tAllG (P : Addr) (wi : TI) (g : TG) (tt : TT) (te : TE) (vs : List Nat) : TE := fun σ H Q => wi σ H fun J H1 => TabG H1 P ∧ ∀ Hc, Tabbed P H1 Hc →
  ∃ N0 W, (∃ m, W 0 [] m Hc) ∧ Turns J (zAll (fun H' => Q (.bl true) H') (fun H' => Q (.bl false) H')) N0 g tt te vs σ W
theorem pe_anyG {X : Cx} {c P : Addr} {elt tg iter : Expr} {ifs : List Expr} {scope : Scope} {own : List (Str × Nat)} {p pos gpos : Pos} {wi : TI} {g : TG} {tt : TT} {te : TE} {k : Nat}
    (hr : Room (k + 3) X.A) (hg : Gl X "any") (hm : X.mg "any" = none) (TB : TabB X.base X.mg c P) (hcode : X.env.code = .ref c) (ok : GenOk X.N X.env.scope scope own) (hN : X.N.Nodup) (hcalm : X.calm = true) (hi : PI X tg iter wi) (hp : Parts X k tg elt ifs scope g tt te)
    (hs : ∀ v, genFold iter X.env v = pure v)
    (he : starEach [.GeneratorExp elt [⟨tg, iter, ifs, 0⟩] scope gpos] X.env = (false, eval (.GeneratorExp elt [⟨tg, iter, ifs, 0⟩] scope gpos) X.env) :: starEach [] X.env := by rfl) :
    PE X (.Call (.Name "any" p) [.GeneratorExp elt [⟨tg, iter, ifs, 0⟩] scope gpos] [] pos) (tAnyG P wi g tt te (own.map (·.2))) := by
  refine ⟨fun pins s σ H Q I h => ?_⟩
  refine wpAny_Call_Name_kw (ld_blt I hg hm boot_any ?_)
  refine PyProof.Rows.callWith_builtin1 ?_ he (by rfl)
  rw [he]
  show wpAny _ _ (spliced ((false, eval (.GeneratorExp elt [⟨tg, iter, ifs, 0⟩] scope gpos) X.env) :: backTo pos (starEach [] X.env))) _ _ s
  refine Calls.spliced_cons (gen_make hr TB hcode ok hi hs I h fun a s4 gid cenv fp it tn J sc Hc go m M => ?_)
  refine Calls.spliced_nil ?_
  obtain ⟨H1, hT, hW⟩ := M.res
  obtain ⟨N0, W, ⟨mm, w⟩, turn⟩ := hW Hc hT
  have hr3 : Room (k + 1) X.A.in1.in1 := Room.in1 (Room.in1 hr)
  have hsl := M.asleep ok hN hcalm hp (B := X.A.in1.in1) hr3 M.inv.ok.frames turn w
  refine call_function_tree F.kind_any F.plain_any F.entry_any (F.args_any1 _) ?_
  unfold Builtin.«any»
  refine wpAny_bind (m := oneArg "any" _) (wpAny_pure ?_)
  refine wpAny_bind (wpAny_pyIter_gen (M.isgen _ M.obj) ?_)
  refine wpAny_pure ⟨plainId_quiet F.plain_any_loop _, any_loop (Qt := fun H' => Q (.bl true) H') (Qf := fun H' => Q (.bl false) H') (A' := X.A) hr.hd (by have := hr.dp; show X.A.depth < _; omega) M.isgen (fun b s1 ps σ' H' s2 I1 hq hos hb hk => ?_) N0 s4 hsl (Array.getElem?_eq_some_iff.mp M.fresh).1⟩
  refine ⟨.bl b, H', M.back I1 hos hb hk, rfl, ?_⟩
  cases b with
  | true => exact hq
  | false => exact hq
theorem boot_all : bootBuiltins "all" = some (.builtin "all") := by rfl
theorem pe_allG {X : Cx} {c P : Addr} {elt tg iter : Expr} {ifs : List Expr} {scope : Scope} {own : List (Str × Nat)} {p pos gpos : Pos} {wi : TI} {g : TG} {tt : TT} {te : TE} {k : Nat}
    (hr : Room (k + 3) X.A) (hg : Gl X "all") (hm : X.mg "all" = none) (hb : bootBuiltins "all" = some (.builtin "all")) (TB : TabB X.base X.mg c P) (hcode : X.env.code = .ref c) (ok : GenOk X.N X.env.scope scope own) (hN : X.N.Nodup) (hcalm : X.calm = true) (hi : PI X tg iter wi) (hp : Parts X k tg elt ifs scope g tt te)
    (hs : ∀ v, genFold iter X.env v = pure v)
    (he : starEach [.GeneratorExp elt [⟨tg, iter, ifs, 0⟩] scope gpos] X.env = (false, eval (.GeneratorExp elt [⟨tg, iter, ifs, 0⟩] scope gpos) X.env) :: starEach [] X.env := by rfl) :
    PE X (.Call (.Name "all" p) [.GeneratorExp elt [⟨tg, iter, ifs, 0⟩] scope gpos] [] pos) (tAllG P wi g tt te (own.map (·.2))) := by
  refine ⟨fun pins s σ H Q I h => ?_⟩
  refine wpAny_Call_Name_kw (ld_blt I hg hm hb ?_)
  refine PyProof.Rows.callWith_builtin1 ?_ he (by rfl)
  rw [he]
  show wpAny _ _ (spliced ((false, eval (.GeneratorExp elt [⟨tg, iter, ifs, 0⟩] scope gpos) X.env) :: backTo pos (starEach [] X.env))) _ _ s
  refine Calls.spliced_cons (gen_make hr TB hcode ok hi hs I h fun a s4 gid cenv fp it tn J sc Hc go m M => ?_)
  refine Calls.spliced_nil ?_
  obtain ⟨H1, hT, hW⟩ := M.res
  obtain ⟨N0, W, ⟨mm, w⟩, turn⟩ := hW Hc hT
  have hr3 : Room (k + 1) X.A.in1.in1 := Room.in1 (Room.in1 hr)
  have hsl := M.asleep ok hN hcalm hp (B := X.A.in1.in1) hr3 M.inv.ok.frames turn w
  refine call_function_tree F.kind_all F.plain_all F.entry_all (F.args_all1 _) ?_
  unfold Builtin.«all»
  refine wpAny_bind (m := oneArg "all" _) (wpAny_pure ?_)
  refine wpAny_bind (wpAny_pyIter_gen (M.isgen _ M.obj) ?_)
  refine wpAny_pure ⟨plainId_quiet F.plain_all_loop _, all_loop (Qt := fun H' => Q (.bl true) H') (Qf := fun H' => Q (.bl false) H') (A' := X.A) hr.hd (by have := hr.dp; show X.A.depth < _; omega) M.isgen (fun b s1 ps σ' H' s2 I1 hq hos hb hk => ?_) N0 s4 hsl (Array.getElem?_eq_some_iff.mp M.fresh).1⟩
  refine ⟨.bl b, H', M.back I1 hos hb hk, rfl, ?_⟩
  cases b with
  | true => exact hq
  | false => exact hq
end GX
namespace GX
open PySem PySem.Spec PyProof.Rows L2 GenW GxR

/-! ### collecting all -/
/-- a list that is filled -/
def hList (S : Addr) : Hold := ⟨S, fun ys o => ∃ (acc : Array Value) (c : Nat), Vals ys acc.toList ∧ o = lstObj acc c, fun _ _ ⟨_, _, _, e⟩ v q => by rw [e] at q; cases q⟩
/-- all items are wanted: Qe at the end -/
def zList (Qe : List V → Hp → Prop) : Wish := ⟨Qe, fun _ _ _ nx => nx, fun _ _ _ _ _ h => h⟩
theorem ext_loop {X G : Cx} {a S : Addr} {gid : Nat} {go : Obj} {Qe : List V → Hp → Prop} {N0 : Nat} {A' : Around} {R : Result → Shared → Prop} {res : Value} (hh : A'.handled = none) (hroom : A'.depth < recursionLimit) (hgo : ∀ h : Heap, h.get? a = some go → h.IsGen a gid) (hSa : S ≠ a) (hSc : S ≠ cStatics) (hN0 : N0 ≤ sizeLine)
    (hR : ∀ s1 ys acc c σ H s2, Inv G ([(S, lstObj acc c)] ++ [(a, go)]) σ H s1 → Vals ys acc.toList → ys.length ≤ sizeLine → Qe ys H → s2.os = s1.os → AllBare s2.gens → (∀ b o, s1.heap.get? b = some o → s2.heap.get? b = some o) → R (.ok (.ret res)) s2) :
    ∀ (n : Nat) (s : Shared), Asleep X G (some (hList S)) [(a, go)] (zList Qe) N0 A'.in1.in1 a gid n s → gid < s.gens.size → codeAny (model X.prog X.w) A' (.builtin "list.extend.loop" ⟨[.ref S, .ref a, res], []⟩) R s := by
  intro n
  induction n using Nat.strongRecOn with
  | ind n ih =>
    intro s h hlt
    refine codeAny_builtin F.entry_extend_loop ?_
    rw [Around.under_plainId F.plain_extend_loop _]
    show wpAny _ A'.in1 (pyNext (.ref a) >>= _) _ _ s
    refine wpAny_bind (wpAny_gsz (n := gid + 1) hlt (next_gx (A' := A'.in1) hh hroom h (fun v s1 gs' ys y σ H hb hn r hs0 hG hI => ?_) fun s1 ys σ H hn hs0 hG hq h' hk => ?_))
    · intro hsz
      have hsz1 : gid < s1.gens.size := by
        have q : (s1.setGen gid gs').gens.size = s1.gens.size := setGen_size _ _ _
        omega
      obtain ⟨ps, ⟨_, ⟨acc, c, rv, rfl⟩, rfl⟩, I⟩ := hG
      have hS1 : s1.heap.get? S = some (lstObj acc c) := (I.pin (S, lstObj acc c) (List.mem_append_right _ (List.mem_append_left _ (List.mem_singleton.mpr rfl)))).1
      have hg1 : s1.heap.get? a = some go := (I.pin (a, go) (List.mem_append_right _ (List.mem_append_right _ (List.mem_singleton.mpr rfl)))).1
      have hasz : acc.size < sizeLine := by
        have e1 := rv.length
        have e2 : acc.toList.length = acc.size := by simp
        omega
      show wpAny _ A'.in1 (updateSeq S (·.push v) >>= _) _ _ _
      refine wpAny_bind ?_
      refine wpAny_updateSeq hS1 rfl (wpAny_pure ⟨plainId_quiet F.plain_extend_loop _, ?_⟩) (Nat.le_of_lt hasz) (by show (acc.push v).size ≤ sizeLine + 1; rw [Array.size_push]; omega)
      have keep3 : ∀ b o, b ≠ S → s1.heap.get? b = some o → (s1.heap.update S (Obj.mapSeq (·.push v))).get? b = some o := fun b o hbS e => (Heap.get?_update_other _ _ (Ne.symm hbS)).trans e
      have hwk : Woke (some (hList S)) ys y s1 { s1 with gens := ((s1.setGen gid gs').setGen gid .running).gens, heap := s1.heap.update S (Obj.mapSeq (·.push v)) } :=
        ⟨rfl, allBare_setGen (s := s1.setGen gid gs') (allBare_setGen I.bare hb) (x := .running) (g := gid) rfl, keep3, _, Heap.get?_update_self _ hS1 rfl, acc.push v, _, by rw [Array.toList_push]; exact rv.append (.cons r .nil), rfl⟩
      obtain ⟨m, rfl, hgo2⟩ := hI _ hwk
      refine ih m (by omega) { s1.setGen gid gs' with heap := s1.heap.update S (Obj.mapSeq (·.push v)) } ⟨hgo _ (keep3 a go (Ne.symm hSa) hg1), ?_, gs', setGen_get hsz1, hgo2⟩ (by show gid < (s1.setGen gid gs').gens.size; rw [setGen_size]; exact hsz1)
      obtain ⟨mc, hns, hnn⟩ := I.nolimit
      exact ⟨mc, hns.at' fun o e => keep3 _ o (Ne.symm hSc) e, hnn⟩
    · intro _
      obtain ⟨ps, ⟨_, ⟨acc, c, rv, rfl⟩, rfl⟩, I⟩ := hG
      refine wpAny_pure ?_
      exact hR s1 ys acc c σ H _ I rv (by omega) hq rfl (allBare_setGen I.bare rfl) hk
theorem Made.asleepS {X : Cx} {pins : List (Addr × Obj)} {σ : L2.St} {elt tg iter : Expr} {ifs : List Expr} {scope : Scope} {own : List (Str × Nat)} {pos : Pos} {P : Addr} {R : It → Hp → Prop} {a : Addr} {s4 : Shared} {gid : Nat} {cenv : Env} {fp : List Addr} {it : Addr} {tn : Nat → Heap → Prop} {J : It} {sc : Shared} {Hc : Hp} {go : Obj} {m : Str → Option Value}
    (M : Made X pins σ elt tg iter ifs scope pos P R a s4 gid cenv fp it tn J sc Hc go m) (ok : GenOk X.N X.env.scope scope own) (hN : X.N.Nodup) (hcalm : X.calm = true) {k : Nat} {g : TG} {tt : TT} {te : TE} (hp : Parts X k tg elt ifs scope g tt te) {B : Around} (hB : Room (k + 1) B) (hfr : B.frames = some X.stack)
    {Z : Wish} {N0 : Nat} {W : Nat → List V → Nat → Hp → Prop} (turn : Turns J Z N0 g tt te (own.map (·.2)) σ W) {mm : Nat} (w : W 0 [] mm Hc) {h : Hold} {s6 : Shared} (hS : s4.heap.objs.size ≤ h.S) (hk : ∀ b o, s4.heap.get? b = some o → s6.heap.get? b = some o) (hgn : s6.gens = s4.gens) (hos : s6.os = s4.os) {o : Obj} (hSo : s6.heap.get? h.S = some o) (hKo : h.K [] o) :
    Asleep X (gcx X sc Hc cenv (B.deeper cenv) fp) (some h) [(a, go)] Z N0 B a gid N0 s6 := by
  have hA : B.deeper cenv = B.over (.compLoop (.GeneratorExp elt [⟨tg, iter, ifs, 0⟩] scope pos) 0 (.ref it) .none cenv) [] := over_gen.symm
  have hAf : (B.deeper cenv).frames = some (cenv :: X.stack) := Around.frames_deeper hfr
  have rA : Room k (B.deeper cenv) := hB.deeper cenv
  have I := M.begin (A := B.deeper cenv) ok hN hAf fun _ => rA.hd
  obtain ⟨cl, C, code, bi, hg⟩ := M.gen
  have fpa : ∀ p ∈ [(a, go)], p.1 ∉ fp := fun p hp hb => by
    rw [List.mem_singleton.mp hp] at hb
    have h1 := (M.fps a hb).2
    have h2 := M.young
    have h3 := M.above
    exact absurd (Nat.lt_trans (Nat.lt_of_lt_of_le h1 h2) h3) (Nat.lt_irrefl _)
  have haS : a < h.S := Nat.lt_of_lt_of_le M.lt hS
  have hscS : sc.heap.objs.size ≤ h.S := Nat.le_of_lt (Nat.lt_of_le_of_lt (Nat.le_trans M.young (Nat.le_of_lt M.above)) haS)
  have hLS : cenv.locals < h.S := Nat.lt_trans M.above haS
  have hb6 : AllBare s6.gens := by rw [hgn]; exact M.bare
  have hfresh := M.fresh
  rw [← hgn] at hfresh
  refine ⟨M.isgen _ (hk _ _ M.obj), M.lim.keeps hk, _, hfresh, rfl, ?_⟩
  have st6 : tn 0 s6.heap := M.turn.keep _ _ _ M.st fun b hb o e => hk b o (M.keep b o e)
  have hpg := hp.tgt sc Hc C cl code bi (B.deeper cenv) fp rA
  have hpt := hp.tst sc Hc C cl code bi (B.deeper cenv) fp rA
  have hpe := hp.elm sc Hc C cl code bi (B.deeper cenv) fp rA
  rw [← hg] at hpg hpt hpe
  have cne : ∀ x cc, cenv.cells.lookup x = some cc → cc ≠ h.S := fun x cc e z => by
    obtain ⟨v, ob, ho, _⟩ := I.cell x cc e
    have := Heap.lt_size ho
    rw [z] at this
    exact absurd (Nat.lt_of_lt_of_le this hS) (Nat.lt_irrefl _)
  have hap : Apart (gcx X sc Hc cenv (B.deeper cenv) fp) h.S := ⟨hscS, Nat.ne_of_gt hLS, cne⟩
  refine seg_start (S := some h) (own := own) (g := g) (tt := tt) (te := te) (σ := σ) (W := W) (J := J) hcalm (by rw [M.sc_]; exact ok.co) M.turn (B.deeper cenv) hA hpg hpt hpe hap (fun p hp b hb => ?_) fpa (fun b hb b' hb' => ?_) turn mm (s6.setGen gid .running) (s6.setGen gid .running) Hc w (SameS.refl _ _) ?_ st6 fun b hb => (M.fps b hb).1.1
  · cases hb
    rw [List.mem_singleton.mp hp]
    exact Nat.ne_of_lt haS
  · cases hb'
    exact Nat.ne_of_lt (Nat.lt_of_lt_of_le (M.fps b hb).2 hscS)
  · refine ⟨[(h.S, o)], ⟨o, hKo, rfl⟩, ?_⟩
    have I6 : Inv (gcx X sc Hc cenv (B.deeper cenv) fp) [(a, go)] (wipe σ (own.map (·.2))) Hc (s6.setGen gid .running) := I.call' (s' := s6.setGen gid .running) (ch := []) hos (Un.kept hk) (I.hok.kept hk) (allBare_setGen hb6 rfl) fun b hb => by simp at hb
    refine I6.pins_of fun p hp => ?_
    rcases List.mem_append.mp hp with z | z
    · rw [List.mem_singleton.mp z]
      refine ⟨hSo, M.inv.hok.fresh hscS, Nat.ne_of_gt hLS, fun hb => ?_, h.nocell _ _ hKo⟩
      rcases List.mem_cons.mp (M.inv.stkSub h.S hb) with z | z
      · exact Nat.ne_of_gt (Nat.lt_of_lt_of_le M.inv.lt hscS) z
      · exact M.inv.nofs hscS z
    · exact I6.pin p (List.mem_append_right _ z)
/-- collect(g): all that it hands out -/
theorem collect_gx {X : Cx} {pins : List (Addr × Obj)} {σ : L2.St} {elt tg iter : Expr} {ifs : List Expr} {scope : Scope} {own : List (Str × Nat)} {pos : Pos} {P : Addr} {R : It → Hp → Prop} {a : Addr} {s4 : Shared} {gid : Nat} {cenv : Env} {fp : List Addr} {it : Addr} {tn : Nat → Heap → Prop} {J : It} {sc : Shared} {Hc : Hp} {go : Obj} {m : Str → Option Value}
    (M : Made X pins σ elt tg iter ifs scope pos P R a s4 gid cenv fp it tn J sc Hc go m) (ok : GenOk X.N X.env.scope scope own) (hN : X.N.Nodup) (hcalm : X.calm = true) {k : Nat} {g : TG} {tt : TT} {te : TE} (hp : Parts X k tg elt ifs scope g tt te) {A : Around} (hA : Room (k + 4) A) (hfr : A.frames = some X.stack)
    {Qe : List V → Hp → Prop} {N0 : Nat} (hN0 : N0 ≤ sizeLine) {W : Nat → List V → Nat → Hp → Prop} (turn : Turns J (zList Qe) N0 g tt te (own.map (·.2)) σ W) {mm : Nat} (w : W 0 [] mm Hc) {Q : List Value → Shared → Prop} {E : Value → Shared → Prop}
    (hQ : ∀ us ys H' s', Inv X pins σ H' s' → Vals ys us → ys.length ≤ sizeLine → Qe ys H' → Q us s') : wpAny (model X.prog X.w) A (collect (.ref a)) Q E s4 := by
  have hSa : s4.heap.objs.size ≠ a := Nat.ne_of_gt M.lt
  have hcl : cStatics < s4.heap.objs.size := let ⟨_, hn, _⟩ := M.lim; hn.lt
  have hSc : s4.heap.objs.size ≠ cStatics := Nat.ne_of_gt hcl
  unfold collect
  refine wpAny_bind (wpAny_runValue (codeAny_builtin F.entry_proto_collect ?_))
  rw [Around.under_plainId F.plain_proto_collect _]
  show wpAny _ A.in1 (newList [] >>= fun l => again (.builtin "list.__iadd__" ⟨[l, .ref a], []⟩)) _ _ s4
  refine wpAny_bind (wpAny_newObj_type ?_)
  refine wpAny_pure ⟨plainId_quiet F.plain_list_iadd _, codeAny_builtin F.entry_list_iadd ?_⟩
  rw [Around.under_plainId F.plain_list_iadd _]
  have k1 : ∀ b o, s4.heap.get? b = some o → (s4.heap.push { cls := .type "list", data := .seq ([] : List Value).toArray }).get? b = some o := fun b o e => Heap.get?_push_of_some _ e
  have gty : ∀ {h : Heap}, (∀ b o, s4.heap.get? b = some o → h.get? b = some o) → h.IsGen a gid := fun {h} q => M.isgen _ (q _ _ M.obj)
  show wpAny _ A.in1 (Builtin.List.listExtendWith (.ref s4.heap.objs.size) (.ref a) (.ref s4.heap.objs.size)) _ _ _
  unfold Builtin.List.listExtendWith
  refine wpAny_bind (wpAny_typeOf (Heap.IsGen.typeIs (s := { s4 with heap := _ }) (gty k1)) ?_)
  have h1 : Builtin.List.listSameRef (.ref s4.heap.objs.size) (.ref a) = false := by simp [Builtin.List.listSameRef, hSa]
  have h2 : (Value.type "generator" == Value.type "list") = false := by decide
  have h3 : (Value.type "generator" == Value.type "tuple") = false := by decide
  simp only [h1, h2, h3, Bool.or_false, Bool.false_eq_true, if_false]
  refine wpAny_bind (wpAny_pyIter_gen (s := { s4 with heap := _ }) (gty k1) ?_)
  refine wpAny_bind (wpAny_holding ?_)
  unfold Builtin.List.listLengthHint
  refine wpAny_bind (wpAny_specialOf (Heap.IsGen.typeIs (s := { s4 with heap := _ }) (gty k1)) F.gen_no_len ?_)
  show wpAny _ A.in1 (specialOf (Value.ref a) (Str.ofString "__length_hint__") >>= _) _ _ _
  refine wpAny_bind (wpAny_specialOf (Heap.IsGen.typeIs (s := { s4 with heap := _ }) (gty k1)) F.gen_no_hint ?_)
  refine wpAny_pure ?_
  show wpAny _ A.in1 (rule "list.extend.makes-room" >>= fun _ => Builtin.List.listTouch (.ref s4.heap.objs.size) >>= fun _ =>
    again (.builtin "list.extend.loop" ⟨[.ref s4.heap.objs.size, .ref a, .ref s4.heap.objs.size], []⟩)) _ _ _
  refine wpAny_bind (wpAny_rule ?_)
  have hS₁ : (s4.heap.push { cls := .type "list", data := .seq ([] : List Value).toArray }).get? s4.heap.objs.size = some { cls := .type "list", data := .seq ([] : List Value).toArray } := Heap.get?_push_size _ rfl
  refine wpAny_bind ?_
  show wpAny _ A.in1 (updateSeq s4.heap.objs.size (·.push .none) >>= fun _ => updateSeq s4.heap.objs.size (·.pop)) _ _ _
  refine wpAny_bind (wpAny_updateSeq hS₁ rfl ?_)
  have hS₂ := Heap.get?_update_self (Obj.mapSeq (·.push Value.none)) hS₁ rfl
  refine wpAny_updateSeq hS₂ rfl ?_
  have hS₃ := Heap.get?_update_self (Obj.mapSeq (·.pop)) hS₂ rfl
  have up : ∀ (h : Heap) (f : Obj → Obj), (∀ b o, s4.heap.get? b = some o → h.get? b = some o) → ∀ b o, s4.heap.get? b = some o → (h.update s4.heap.objs.size f).get? b = some o := fun h f q b o e =>
    (Heap.get?_update_other _ _ (Ne.symm (Nat.ne_of_lt (Heap.lt_size e)))).trans (q b o e)
  have k3 := up _ (Obj.mapSeq (·.pop)) (up _ (Obj.mapSeq (·.push Value.none)) k1)
  have hr3 : Room (k + 1) A.in1.in1 := Room.in1 (Room.in1 (hA.mono (by omega)))
  have hsl := M.asleepS ok hN hcalm hp (B := A.in1.in1) hr3 hfr turn w (h := hList s4.heap.objs.size) (s6 := { s4 with heap := _ }) (Nat.le_refl _) k3 rfl rfl hS₃ ⟨#[], _, .nil, rfl⟩
  refine wpAny_pure ⟨plainId_quiet F.plain_extend_loop _, ext_loop (Qe := Qe) (A' := A) hA.hd (by have := hA.dp; omega) M.isgen hSa hSc hN0 (fun s1 ys acc c σ' H' s2 I1 rv hl hq hos hb hk => ?_) N0 _ hsl (Array.getElem?_eq_some_iff.mp M.fresh).1⟩
  have hS1 : s1.heap.get? s4.heap.objs.size = some (lstObj acc c) := (I1.pin (s4.heap.objs.size, lstObj acc c) (List.mem_append_right _ (List.mem_append_left _ (List.mem_singleton.mpr rfl)))).1
  show wpAny _ A (load s4.heap.objs.size >>= _) _ _ s2
  refine wpAny_bind (wpAny_load (hk _ _ hS1) ?_)
  exact wpAny_pure (hQ _ ys H' s2 (M.back I1 hos hb hk) rv hl hq)
end GX
namespace GX
open PySem PySem.Spec PyProof.Rows L2 GenW GxR

theorem code_tuple_gx {X : Cx} {A : Around} {a : Addr} {gid : Nat} {s : Shared} {Q₁ : Value → Shared → Prop} {E : Value → Shared → Prop} (hg : s.heap.IsGen a gid)
    (h : ∀ {Q : List Value → Shared → Prop} {E' : Value → Shared → Prop}, (∀ us s', us.length ≤ sizeLine ∧ Q₁ (.ref s'.heap.objs.size) { s' with heap := s'.heap.push { cls := .type "tuple", data := .seq us.toArray } } → Q us s') → wpAny (model X.prog X.w) A.in1 (collect (.ref a)) Q E' s) :
    codeAny (model X.prog X.w) A (.call (.builtin "tuple.__new__") ⟨[.type "tuple", .ref a], []⟩) (wants Q₁ E) s := by
  refine codeAny_of_tree ?_
  show wpAny _ A.in1 (do checkBuiltinCall "tuple.__new__" ⟨[.type "tuple", .ref a], []⟩; again (.builtin "tuple.__new__" ⟨[.type "tuple", .ref a], []⟩)) _ _ s
  refine wpAny_bind (wpAny_of_eq (F.newCall_tuple_1 _) (wpAny_pure ⟨plainId_quiet F.plain_tuple_new _, codeAny_builtin F.entry_tuple_new ?_⟩))
  rw [Around.under_plainId F.plain_tuple_new _]
  have hsub := sub_tuple_self
  have hinit := init_tuple_lookup
  have hmh := madeHere_tuple
  have hTI := hg.typeIs
  wp_walk using wpAny_typeOf hTI, h
  intro us s' ⟨hl, hq⟩
  show wpAny _ _ (Builtin.Tuple.tupleExact us.toArray >>= fun v => ret v) _ _ _
  unfold Builtin.Tuple.tupleExact
  refine wpAny_bind (wpAny_newObj_type ?_ (by show us.toArray.size ≤ sizeLine; simpa using hl))
  refine wpAny_pure ?_
  exact hq
/-- tuple(elt for tg in iter if ..) -/
def tTupG (P : Addr) (wi : TI) (g : TG) (tt : TT) (te : TE) (vs : List Nat) : TE := fun σ H Q => wi σ H fun J H1 => TabG H1 P ∧ ∀ Hc, Tabbed P H1 Hc →
  ∃ N0 W, N0 ≤ sizeLine ∧ (∃ m, W 0 [] m Hc) ∧ Turns J (zList fun ys H' => ∀ S, H' S = none → Q (.ref S) (upd H' S (.tup ys))) N0 g tt te vs σ W
theorem pe_tupG {X : Cx} {c P : Addr} {elt tg iter : Expr} {ifs : List Expr} {scope : Scope} {own : List (Str × Nat)} {p pos gpos : Pos} {nm : Str} {wi : TI} {g : TG} {tt : TT} {te : TE} {k : Nat}
    (hr : Room (k + 6) X.A) (hg : Gl X nm) (hm : X.mg nm = none) (hv : bootBuiltins nm = some (.type "tuple")) (TB : TabB X.base X.mg c P) (hcode : X.env.code = .ref c) (ok : GenOk X.N X.env.scope scope own) (hN : X.N.Nodup) (hcalm : X.calm = true) (hi : PI X tg iter wi) (hp : Parts X k tg elt ifs scope g tt te)
    (hs : ∀ v, genFold iter X.env v = pure v) (hnm : nm ≠ "__name__" := by decide) (hdb : (nm == ("__debug__" : Str)) = false := by decide)
    (he : starEach [.GeneratorExp elt [⟨tg, iter, ifs, 0⟩] scope gpos] X.env = (false, eval (.GeneratorExp elt [⟨tg, iter, ifs, 0⟩] scope gpos) X.env) :: starEach [] X.env := by rfl) :
    PE X (.Call (.Name nm p) [.GeneratorExp elt [⟨tg, iter, ifs, 0⟩] scope gpos] [] pos) (tTupG P wi g tt te (own.map (·.2))) := by
  refine ⟨fun pins s σ H Q I h => ?_⟩
  refine wpAny_Call_Name_kw (ld_blt I hg hm hv ?_ hnm hdb)
  refine PyProof.Rows.callWith_type1 ?_ he rfl
  rw [he]
  show wpAny _ _ (spliced ((false, eval (.GeneratorExp elt [⟨tg, iter, ifs, 0⟩] scope gpos) X.env) :: backTo pos (starEach [] X.env))) _ _ s
  refine Calls.spliced_cons (gen_make hr TB hcode ok hi hs I h fun a s4 gid cenv fp it tn J sc Hc go m M => ?_)
  refine Calls.spliced_nil ?_
  obtain ⟨H1, hT, hW⟩ := M.res
  obtain ⟨N0, W, hN0, ⟨mm, w⟩, turn⟩ := hW Hc hT
  refine callType_codes (Q₁ := fun obj s₁ => s₁.TypeIs obj "tuple" ∧ EP X pins σ Q obj s₁) F.called_tuple (F.typeCall_tuple_1 _) F.entry_object_init
    (code_tuple_gx (M.isgen _ M.obj) fun {Q' E'} hq => collect_gx M ok hN hcalm hp (A := X.A.in1.in1) (Room.in1 (Room.in1 hr)) M.inv.ok.frames hN0 turn w fun us ys H' s' I1 rv hl hE => hq us s' ⟨by rw [← rv.length]; exact hl, ⟨_, Heap.get?_push_size _ rfl, rfl⟩, ?_⟩) fun obj s₁ h₁ => ?_
  · have hn : H' s'.heap.objs.size = none := I1.hok.fresh (Nat.le_refl _)
    exact ⟨.ref s'.heap.objs.size, upd H' s'.heap.objs.size (.tup ys), I1.laid (t' := s'.toks) (fun b o e => Heap.get?_push_of_some _ e) (Nat.le_refl _) ⟨hl, us, rv, ⟨_, Heap.get?_push_size _ rfl, rfl, 0, rfl⟩⟩, rfl, hE _ hn⟩
  · exact ⟨h₁.1, F.args_object_init_2 obj _, object_init_meets F.called_tuple.init.lookup F.called_tuple.made (by decide) X.prog X.w X.A.in1 _ s₁ ⟨h₁.1, rfl, h₁.2⟩⟩
end GX
namespace GX
open PySem PySem.Spec PyProof.Rows L2 GenW GxR

/-! ### sum -/
def vI : V → Int
  | .int i => i
  | _ => 0
def sumV : List V → Int
  | [] => 0
  | v :: vs => vI v + sumV vs
theorem sumV_app : ∀ (xs : List V) (y : V), sumV (xs ++ [y]) = sumV xs + vI y
  | [], y => by rw [List.nil_append, sumV, sumV, sumV]; omega
  | x :: xs, y => by rw [List.cons_append, sumV, sumV, sumV_app xs y]; omega
def hSum (S : Addr) : Hold := ⟨S, fun ys o => ∃ (t : Tok) (c : Nat), o = { cls := .type "list", dict := none, data := .seq #[.int (sumV ys) t] c, slots := #[] }, fun _ _ ⟨_, _, e⟩ v q => by rw [e] at q; cases q⟩
def zSum (Qe : Int → Hp → Prop) : Wish := ⟨fun ys H => Qe (sumV ys) H, fun ys y _ nx => ∃ i, y = .int i ∧ InLong i ∧ InLong (sumV ys + i) ∧ nx, fun _ _ _ _ _ h ⟨i, e, a, b, q⟩ => ⟨i, e, a, b, h q⟩⟩
theorem sum_loop {X G : Cx} {a S : Addr} {gid : Nat} {go : Obj} {Qe : Int → Hp → Prop} {N0 : Nat} {A' : Around} {R : Result → Shared → Prop} (hh : A'.handled = none) (hroom : A'.depth < recursionLimit) (hgo : ∀ h : Heap, h.get? a = some go → h.IsGen a gid) (hSa : S ≠ a) (hSc : S ≠ cStatics)
    (hR : ∀ s1 ps i t σ H s2, Inv G (ps ++ [(a, go)]) σ H s1 → Qe i H → s2.os = s1.os → AllBare s2.gens → (∀ b o, s1.heap.get? b = some o → s2.heap.get? b = some o) → R (.ok (.ret (.int i t))) s2) :
    ∀ (n : Nat) (s : Shared) (ys0 : List V) (t : Tok) (c : Nat), s.heap.get? S = some { cls := .type "list", dict := none, data := .seq #[.int (sumV ys0) t] c, slots := #[] } → n + ys0.length = N0 → Asleep X G (some (hSum S)) [(a, go)] (zSum Qe) N0 A'.in1.in1 a gid n s → gid < s.gens.size → codeAny (model X.prog X.w) A' (.builtin "sum.loop" ⟨[.ref a, .ref S, rawInt 0, rawInt 0], []⟩) R s := by
  intro n
  induction n using Nat.strongRecOn with
  | ind n ih =>
    intro s ys0 t0 c0 hS hn0 h hlt
    refine codeAny_builtin F.entry_sum_loop ?_
    rw [Around.under_plainId F.plain_sum_loop _]
    show wpAny _ A'.in1 (seqItems? (.ref S) >>= _) _ _ s
    refine wpAny_bind (wpAny_seqItems hS rfl ?_)
    show wpAny _ A'.in1 (tryCatch (pyNext (.ref a)) _ >>= _) _ _ s
    refine wpAny_bind (wpAny_tryCatch (wpAny_gsz (n := gid + 1) hlt (next_gx (A' := A'.in1) hh hroom h (fun v s1 gs' ys y σ H hb hn r hs0 hG hI => ?_) fun s1 ys σ H hn hs0 hG hq h' hk => ?_)))
    · intro hsz
      have hsz1 : gid < s1.gens.size := by
        have q : (s1.setGen gid gs').gens.size = s1.gens.size := setGen_size _ _ _
        omega
      obtain ⟨ps, ⟨o, ⟨t, c, rfl⟩, rfl⟩, I⟩ := hG
      have hS1 : s1.heap.get? S = some { cls := .type "list", dict := none, data := .seq #[.int (sumV ys) t] c, slots := #[] } := (I.pin (S, _) (List.mem_append_right _ (List.mem_append_left _ (List.mem_singleton.mpr rfl)))).1
      have hg1 : s1.heap.get? a = some go := (I.pin (a, go) (List.mem_append_right _ (List.mem_append_right _ (List.mem_singleton.mpr rfl)))).1
      have hsame : s1.heap.get? S = s.heap.get? S := hs0
      have hsum : sumV ys = sumV ys0 := by
        rw [hS1, hS] at hsame
        have := congrArg (fun o : Option Obj => o.map Obj.data) hsame
        simp at this
        exact this.1.1
      obtain ⟨i, rfl, f1, f2, nx⟩ := hI
      obtain ⟨ti, rfl⟩ := r
      have hc : ((decide (-(2 ^ 63) ≤ i) && decide (i < 2 ^ 63)) && (decide (-(2 ^ 63) ≤ sumV ys0 + i) && decide (sumV ys0 + i < 2 ^ 63))) = true := by
        rw [hsum] at f2
        simp only [Bool.and_eq_true, decide_eq_true_eq]
        exact ⟨⟨f1.1, f1.2⟩, f2.1, f2.2⟩
      show wpAny _ A'.in1 (if (_ : Bool) = true then (mkInt (sumV ys0 + i) >>= _) else _) _ _ _
      split
      · refine wpAny_bind (wpAny_mkInt ?_)
        show wpAny _ A'.in1 (updateSeq S (fun _ => #[.int (sumV ys0 + i) _]) >>= _) _ _ _
        refine wpAny_bind ?_
        have keep3 : ∀ (f : Obj → Obj) b o, b ≠ S → s1.heap.get? b = some o → (s1.heap.update S f).get? b = some o := fun f b o hbS e => (Heap.get?_update_other _ _ (Ne.symm hbS)).trans e
        refine wpAny_updateSeq hS1 rfl (wpAny_pure ⟨plainId_quiet F.plain_sum_loop _, ?_⟩)
        have hS2 := Heap.get?_update_self (Obj.mapSeq fun _ => #[Value.int (sumV ys0 + i) s1.toks]) hS1 rfl
        have es : sumV ys0 + i = sumV (ys ++ [V.int i]) := by rw [sumV_app, hsum]; rfl
        have hwk : Woke (some (hSum S)) ys (V.int i) s1 { s1 with gens := ((s1.setGen gid gs').setGen gid .running).gens, toks := s1.toks + 1, heap := s1.heap.update S (Obj.mapSeq fun _ => #[Value.int (sumV ys0 + i) s1.toks]) } :=
          ⟨rfl, allBare_setGen (s := s1.setGen gid gs') (allBare_setGen I.bare hb) (x := .running) (g := gid) rfl, keep3 _, _, hS2, s1.toks, _, by rw [es]; rfl⟩
        obtain ⟨m, rfl, hgo2⟩ := nx _ hwk
        refine ih m (by omega) { s1.setGen gid gs' with toks := s1.toks + 1, heap := s1.heap.update S (Obj.mapSeq fun _ => #[Value.int (sumV ys0 + i) s1.toks]) } (ys ++ [V.int i]) s1.toks _ (by rw [← es]; exact hS2) (by rw [List.length_append]; simp only [List.length_cons, List.length_nil]; omega) ⟨hgo _ (keep3 _ a go (Ne.symm hSa) hg1), ?_, gs', setGen_get hsz1, hgo2⟩ (by show gid < (s1.setGen gid gs').gens.size; rw [setGen_size]; exact hsz1)
        obtain ⟨mc, hns, hnn⟩ := I.nolimit
        exact ⟨mc, hns.at' fun o e => keep3 _ _ o (Ne.symm hSc) e, hnn⟩
      · rename_i hneg
        exact absurd hc hneg
    · intro _
      obtain ⟨ps, ⟨o, ⟨t, c, rfl⟩, rfl⟩, I⟩ := hG
      have hS1 : s1.heap.get? S = some { cls := .type "list", dict := none, data := .seq #[.int (sumV ys) t] c, slots := #[] } := (I.pin (S, _) (List.mem_append_right _ (List.mem_append_left _ (List.mem_singleton.mpr rfl)))).1
      have hsame : s1.heap.get? S = s.heap.get? S := hs0
      have hsum : sumV ys = sumV ys0 := by
        rw [hS1, hS] at hsame
        have := congrArg (fun o : Option Obj => o.map Obj.data) hsame
        simp at this
        exact this.1.1
      have hq : Qe (sumV ys) H := hq
      rw [hsum] at hq
      exact wpAny_pure (hR s1 _ (sumV ys0) t0 σ H _ I hq rfl (allBare_setGen I.bare rfl) hk)
/-- sum(elt for tg in iter if ..) of ints -/
def tSumG (P : Addr) (wi : TI) (g : TG) (tt : TT) (te : TE) (vs : List Nat) : TE := fun σ H Q => wi σ H fun J H1 => TabG H1 P ∧ ∀ Hc, Tabbed P H1 Hc →
  ∃ N0 W, (∃ m, W 0 [] m Hc) ∧ Turns J (zSum fun i H' => Q (.int i) H') N0 g tt te vs σ W
theorem pe_sumG {X : Cx} {c P : Addr} {elt tg iter : Expr} {ifs : List Expr} {scope : Scope} {own : List (Str × Nat)} {p pos gpos : Pos} {wi : TI} {g : TG} {tt : TT} {te : TE} {k : Nat}
    (hr : Room (k + 3) X.A) (hg : Gl X "sum") (hm : X.mg "sum" = none) (hb : bootBuiltins "sum" = some (.builtin "sum")) (TB : TabB X.base X.mg c P) (hcode : X.env.code = .ref c) (ok : GenOk X.N X.env.scope scope own) (hN : X.N.Nodup) (hcalm : X.calm = true) (hi : PI X tg iter wi) (hp : Parts X k tg elt ifs scope g tt te)
    (hs : ∀ v, genFold iter X.env v = pure v)
    (he : starEach [.GeneratorExp elt [⟨tg, iter, ifs, 0⟩] scope gpos] X.env = (false, eval (.GeneratorExp elt [⟨tg, iter, ifs, 0⟩] scope gpos) X.env) :: starEach [] X.env := by rfl) :
    PE X (.Call (.Name "sum" p) [.GeneratorExp elt [⟨tg, iter, ifs, 0⟩] scope gpos] [] pos) (tSumG P wi g tt te (own.map (·.2))) := by
  refine ⟨fun pins s σ H Q I h => ?_⟩
  refine wpAny_Call_Name_kw (ld_blt I hg hm hb ?_)
  refine PyProof.Rows.callWith_builtin1 ?_ he (by rfl)
  rw [he]
  show wpAny _ _ (spliced ((false, eval (.GeneratorExp elt [⟨tg, iter, ifs, 0⟩] scope gpos) X.env) :: backTo pos (starEach [] X.env))) _ _ s
  refine Calls.spliced_cons (gen_make hr TB hcode ok hi hs I h fun a s4 gid cenv fp it tn J sc Hc go m M => ?_)
  refine Calls.spliced_nil ?_
  obtain ⟨H1, hT, hW⟩ := M.res
  obtain ⟨N0, W, ⟨mm, w⟩, turn⟩ := hW Hc hT
  have hr3 : Room (k + 1) X.A.in1.in1 := Room.in1 (Room.in1 hr)
  have hSa : s4.heap.objs.size ≠ a := Nat.ne_of_gt M.lt
  have hcl : cStatics < s4.heap.objs.size := let ⟨_, hn, _⟩ := M.lim; hn.lt
  have hSc : s4.heap.objs.size ≠ cStatics := Nat.ne_of_gt hcl
  refine call_function_tree F.kind_sum F.plain_sum F.entry_sum (F.args_sum1 _) ?_
  unfold Builtin.«sum»
  simp only [List.length_cons, List.length_nil]
  rw [if_neg (by decide)]
  refine wpAny_bind (wpAny_of_eq (show Builtin.Builtins.bindParams "sum" ["start"] 0 { } = pure [none] from rfl) ?_)
  refine wpAny_bind (wpAny_pyIter_gen (M.isgen _ M.obj) ?_)
  refine wpAny_bind (wpAny_mkInt ?_)
  refine wpAny_bind (wpAny_pure ?_)
  simp only [List.forIn_cons, List.forIn_nil]
  refine wpAny_bind (wpAny_bind (wpAny_bind (wpAny_isInstance (T := "int") (b := false) (typeIs_int _ _ _) PySem.sub_int_str ?_)))
  simp only [Bool.false_eq_true, if_false]
  refine wpAny_pure (wpAny_bind (wpAny_bind (wpAny_isInstance (T := "int") (b := false) (typeIs_int _ _ _) PySem.sub_int_bytes ?_)))
  simp only [Bool.false_eq_true, if_false]
  refine wpAny_pure (wpAny_bind (wpAny_bind (wpAny_isInstance (T := "int") (b := false) (typeIs_int _ _ _) PySem.sub_int_bytearray ?_)))
  simp only [Bool.false_eq_true, if_false]
  refine wpAny_pure (wpAny_pure ?_)
  refine wpAny_bind (wpAny_newObj_type ?_)
  have hS₁ : ∀ t : Tok, (s4.heap.push { cls := .type "list", data := .seq #[Value.int 0 t] }).get? s4.heap.objs.size = some { cls := .type "list", data := .seq #[Value.int 0 t] } := fun t => Heap.get?_push_size _ rfl
  have hsl := fun t => M.asleepS ok hN hcalm hp (B := X.A.in1.in1) hr3 M.inv.ok.frames turn w (h := hSum s4.heap.objs.size) (s6 := { s4 with heap := s4.heap.push { cls := .type "list", data := .seq #[Value.int 0 t] }, toks := s4.toks + 1 }) (Nat.le_refl _) (fun b o e => Heap.get?_push_of_some _ e) rfl rfl (hS₁ t) ⟨t, 0, rfl⟩
  refine wpAny_pure ⟨plainId_quiet F.plain_sum_loop _, sum_loop (Qe := fun i H' => Q (.int i) H') (A' := X.A) hr.hd (by have := hr.dp; show X.A.depth < _; omega) M.isgen hSa hSc (fun s1 ps i t σ' H' s2 I1 hq hos hb hk => ?_) N0 _ [] _ 0 (hS₁ _) (Nat.add_zero _) (hsl _) (Array.getElem?_eq_some_iff.mp M.fresh).1⟩
  exact ⟨.int i, H', M.back I1 hos hb hk, ⟨t, rfl⟩, hq⟩
end GX
namespace GX
open PySem PySem.Spec PyProof.Rows L2 LamX
/-- each def's code object and its table, empty at the law's start -/
def TabsAt (q : Program) (mg : Str → Option Value) (h : Heap) : Prop := ∀ d ∈ recsOf q, ∃ a o fd c P, mg d.name = some (.ref a) ∧ h.get? a = some o ∧ o.data = .func fd ∧ fd.code = .ref c ∧ h.IsCode c P #[] ∧ h.TableAt c P #[]
theorem walk_ofAll {l : PySem.W.OpenLaw} {n k : Nat} {q : Program} {loose : List Str} {XP : (Str → Option Value) → Heap → Prop} {YP : World → Heap → Prop} {d : DefRec} {K : Params → PySem.W.Frag} {CX : World → CXT} {x : Str}
    (hn : l.most = some n) (hn2 : n ≤ sizeLine) (hdf : d.params.defaults = []) (hr : Room k callerA) (hY : ∀ (w : World) (h : Heap), YP w h → (K w.params).In h)
    (F : ∀ (w : World) (mg : Str → Option Value) (fa : Addr) (h : Heap), YP w h → (K w.params).In h → h.Ns mainGlobals mg → mg d.name = some (.ref fa) → TabsAt q mg h → LawAtS l w (K w.params) (CX w) k n x mg fa h)
    (hCX : ∀ (w : World) (H : Hp) (s : Shared) (e : Value) (s' : Shared), CX w [] H s (fun _ _ _ => False) e s' → False) :
    PySem.W.WalkO q loose XP YP l.row.toRowW d [] (fun f vs => PySem.call f vs) := by
  refine Att.attach_callB hn hdf fun w s₀ s₁ mg mb fa o pm cd doc a vs ns G Y ho hd hcd hmg hobj hints hlen hbits hg => ?_
  have KX := hY w _ Y
  obtain ⟨fd, cs, sp, hT, nT, C, hb, hsp, hF⟩ := F w mg fa _ Y KX G.T.g hmg G.T.tab
  exact law_callTs KX G.T.g G.T.b G.T.builtins G.T.nolimit hg hT nT C G.T.bmain hobj hints (Nat.le_trans hlen hn2) hr hF hb (fun H hH hS => hsp H a ns hlen hbits hH hS) fun H e s' => hCX w H s₁ e s'
end GX
namespace SX
open PySem PySem.Spec PyProof.Rows L2
noncomputable section
open Classical
variable [Tabs]

/-! ### the generator's context -/
theorem genOk_by {N : List Str} {sc scope : Scope} {own : List (Str × Nat)} (h : genB N sc scope own = true) : GX.GenOk N sc scope own := by
  unfold genB at h
  simp only [Bool.and_eq_true, decide_eq_true_eq] at h
  obtain ⟨⟨⟨⟨⟨⟨⟨⟨h1, h2⟩, h3⟩, h4⟩, h5⟩, h6⟩, h7⟩, h8⟩, h9⟩ := h
  refine ⟨h1, by simpa using h2, h3, ?_, fun y hy => ?_, fun y hy => ?_, fun p hp => ?_, fun y hy e => ?_, fun y hy e => ?_⟩
  · intro z
    rw [List.contains_iff_mem.mpr z] at h4
    cases h4
  · exact of_decide_eq_true (List.all_eq_true.mp h5 y hy)
  · exact of_decide_eq_true (List.all_eq_true.mp h6 y hy)
  · exact of_decide_eq_true (List.all_eq_true.mp h7 p hp)
  · have := List.all_eq_true.mp h8 y hy
    simp only [Bool.or_eq_true, Bool.not_eq_true', decide_eq_false_iff_not, decide_eq_true_eq] at this
    rcases this with (z | z) | z
    · exact absurd e z
    · exact .inl z
    · exact .inr z
  · have := List.all_eq_true.mp h9 y hy
    simp only [Bool.or_eq_true, Bool.not_eq_true', decide_eq_false_iff_not] at this
    rcases this with (z | z) | z
    · exact absurd e z
    · exact .inl (List.contains_iff_mem.mp z)
    · refine .inr fun q => ?_
      rw [List.contains_iff_mem.mpr q] at z
      cases z
theorem Fits.gen {c : Cn} {F : Fns} {X : Cx} (f : Fits c F X) (hg : c.g = true) : ∃ k, Room (k + 6) X.A ∧ ∀ (s : Shared) (H : Hp) (scope : Scope) (C : Addr) (cl : List (Str × Addr)) (code : Value) (bi : Addr) (A : Around) (fp : List Addr), Room k A →
    Fits (inCtx c scope) F (GX.gcx X s H (genEnv scope cl C code bi X.env) A fp) := by
  obtain ⟨k, _, h2, h3⟩ := f.rm
  refine ⟨k, h2 hg, fun s H scope C cl code bi A fp hr => ?_⟩
  exact {
    calm := f.calm
    N := f.N
    nd := f.nd
    sc := rfl
    un := by have := hr.un; show A.units + 65 < cLine; omega
    xe := rfl
    bl := f.bl
    co := fun x k h => ⟨(f.co x k h).ex⟩
    gx := fun z => by cases z
    rm := ⟨k, hr, fun z => by (cases z), fun g hg => ⟨(h3 g hg).ex⟩⟩ }
theorem gen_tgt {c : Cn} {F : Fns} {X : Cx} {scope : Scope} {t : Tg} {tg : Expr} {own : List Nat} (f : Fits (inCtx c scope) F X) (h3 : (slotsT t).all (fun i => own.contains i) = true) (h4 : own.all (fun i => decide (scope.names.lookup (c.N.getD i "") = some .local)) = true) (h5 : ckT (inCtx c scope) t tg = true) : PG X tg (TgS X.K t) := by
  refine pg_T f.calm f.N f.nd f.sc t tg h5 fun i hi x hx => .inr ?_
  have hio : i ∈ own := by
    have := List.all_eq_true.mp h3 i hi
    simpa using this
  have hl := of_decide_eq_true (List.all_eq_true.mp h4 i hio)
  have ex : c.N.getD i "" = x := by
    rw [List.getD_eq_getElem?_getD, show c.N[i]? = some x from hx]
    rfl
  rw [ex] at hl
  rw [f.sc]
  exact hl
theorem slots_own {t : Tg} {own : List Nat} (h3 : (slotsT t).all (fun i => own.contains i) = true) : ∀ i ∈ slotsT t, i ∈ own := fun i hi => by
  have := List.all_eq_true.mp h3 i hi
  simpa using this
theorem own_map (N : List Str) (own : List Nat) : (ownP N own).map (·.2) = own := by
  unfold ownP
  rw [List.map_map]
  exact List.map_id' own

/-! ### a table grows -/
theorem step_tab {ι : List Addr} {H H' : Hp} {P : Addr} (h : GxR.TabG H P) (t : GxR.Tabbed P H H') : Step ι H ι H' := by
  obtain ⟨ps, e, _⟩ := h
  obtain ⟨⟨ps', e', t'⟩, k⟩ := t
  have ne : ∀ b o, H b = some o → (∀ qs, o ≠ .tbl qs) → b ≠ P := fun b o q n z => by
    rw [z, e] at q
    cases q
    exact n _ rfl
  exact {
    pre := ⟨[], by simp⟩
    tup := fun a xs q => by rw [k a (ne a _ q fun _ z => by cases z)]; exact q
    frz := fun a o u q => by rw [k a (ne a _ q fun _ z => by cases z)]; exact q
    keep := fun a o q _ n => by rw [k a (ne a o q n)]; exact q
    tabs := fun a qs q => by
      by_cases ha : a = P
      · rw [ha]
        exact ⟨ps', e', fun _ => t'⟩
      · exact ⟨qs, by rw [k a ha]; exact q, id⟩
    new := fun a h1 h2 => absurd h1 h2 }
theorem SR.same {K : PySem.W.Frag} {ι : List Addr} {S : Store} {H H' : Hp} (s : SR K ι S H) (st : Step ι H ι H') (k : ∀ a xs, H a = some (.lst xs) → H' a = some (.lst xs)) : SR K ι S H' :=
  ⟨s.nd, s.len, fun l x a e1 e2 => by
    have q := s.at_ l x a e1 e2
    cases x with
    | lst ds =>
      obtain ⟨xs, h1, h2⟩ := q
      exact ⟨xs, k _ _ h1, Reps.step st ds xs h2⟩, fun p hp => tabG_step st (s.tb p hp)⟩
theorem SR.tabbed {K : PySem.W.Frag} {ι : List Addr} {S : Store} {H H' : Hp} {P : Addr} (s : SR K ι S H) (h : GxR.TabG H P) (t : GxR.Tabbed P H H') : SR K ι S H' := by
  refine s.same (step_tab h t) fun a xs e => ?_
  rw [t.2 a]
  · exact e
  · intro z
    obtain ⟨ps, q, _⟩ := h
    rw [z, q] at e
    cases e

/-! ### tuple(..), any(..), all(..), sum(..) of a generator expression -/
theorem tup_read {K : PySem.W.Frag} {F : Fns} {elt : E} {t : Tg} {it : It} {cs : Es} {own : List Nat} {σ : L2.St} {H : Hp} {Q : VK} {cA P : Addr} (hP : (cA, P) ∈ Tabs.cs) (hsl : ∀ i ∈ slotsT t, i ∈ own)
    (h : RdE K F (.tupG elt t it cs own) σ H Q) : GX.tTupG P (RdI K F it) (TgS K t) (RdB K fun e s => evTs F cs e s) (RdE K F elt) own σ H Q := by
  obtain ⟨ι, env, S, re, sr, g⟩ := h
  unfold evE at g
  obtain ⟨w, S1, ew, g1⟩ := got_bnd g
  obtain ⟨ds, S2, el, g2⟩ := got_bnd g1
  refine ⟨ι, env, S, w, S1, re, sr, ew, fun ι1 H1 J st1 sr1 wk => ⟨sr1.tb _ hP, fun Hc hT => ?_⟩⟩
  have re1 := re.step st1
  have g3 := got_step st1 g2
  have stT := step_tab (ι := ι1) (sr1.tb _ hP) hT
  have srT := sr1.tabbed (sr1.tb _ hP) hT
  let Wi : Nat → List V → Hp → Prop := fun i ys Hc => ∃ ιc Sc acc, Step ι1 H1 ιc Hc ∧ SR K ιc Sc Hc ∧ Reps K ιc Hc acc ys ∧ i ≤ w.items.length ∧
    lcL w t env own (fun e s => evTs F cs e s) (fun e s => evE F elt e s) (w.items.drop i) acc Sc = .ok ds S2
  refine ⟨sizeLine, fun i ys m Hc => m = w.items.length - i ∧ Wi i ys Hc, Nat.le_refl _, ⟨w.items.length, by simp, ι1, S1, [], stT, srT, Reps.nil, Nat.zero_le _, by simpa using el⟩, ?_⟩
  rintro i ys m Hc ⟨rfl, ιc, Sc, acc, stc, src, ra, hi, eL⟩
  by_cases hlt : i < w.items.length
  · refine .inr ?_
    rw [List.drop_eq_getElem_cons hlt] at eL
    unfold lcL at eL
    split at eL
    · rename_i here
      split at eL
      · rename_i env1 e1
        refine ⟨wk.go i ιc Hc Sc stc.toMono src here hlt, Wi (i + 1), fun ys' H' hw => ⟨w.items.length - (i + 1), by omega, rfl, hw⟩, fun x Hy hy => ?_⟩
        obtain ⟨rd, sty, sry⟩ := wk.yld i ιc Hc Sc x Hy w.items[i] stc.toMono src here (List.getElem?_eq_getElem hlt) hy
        have stcy := stc.trans sty
        have ray := Reps.step sty acc ys ra
        refine ⟨ιc, Sc, wipeE env own, w.items[i], env1, (re1.step stcy).wiped own, sry, rd, e1, fun σ1 re2 wok => ⟨?_, ?_⟩⟩
        · rw [wok own hsl]
          exact wipe_idem σ own
        · obtain ⟨b, S3, eb, el2⟩ := bnd_eq_ok eL
          refine ⟨ιc, env1, Sc, re2, sry, b, S3, eb, fun ι3 H3 b' st3 sr3 hb => ?_⟩
          subst hb
          have ra3 := Reps.step st3 acc ys ray
          cases b with
          | true =>
            rw [if_pos rfl] at el2 ⊢
            obtain ⟨y, S4, ey, el3⟩ := bnd_eq_ok el2
            refine ⟨ι3, env1, S3, re2.step st3, sr3, y, S4, ey, fun ι4 H4 yv st4 sr4 ry => ?_⟩
            split at el3
            · rename_i hl
              have ra4 := Reps.step st4 acc ys ra3
              refine ⟨by rw [← line_eq, ← ra4.len]; exact hl, ι4, S4, acc ++ [y], (stcy.trans st3).trans st4, sr4, ?_, hlt, el3⟩
              exact ra4.append (.cons ry .nil)
            · cases el3
          | false =>
            rw [if_neg Bool.false_ne_true] at el2 ⊢
            exact ⟨ι3, S3, acc, stcy.trans st3, sr3, ra3, hlt, el2⟩
      · cases eL
    · cases eL
  · have hi2 : i = w.items.length := by omega
    subst hi2
    rw [List.drop_length] at eL
    unfold lcL at eL
    split at eL
    · rename_i here
      cases eL
      refine .inl ⟨wk.stop _ ιc Hc _ stc.toMono src here (Nat.le_refl _), ?_⟩
      exact got_tup (got_step stc g3) src ra
    · cases eL
/-- any, all: the turns for both -/
theorem ql_turns {K : PySem.W.Frag} {F : Fns} {elt : E} {t : Tg} {cs : Es} {own : List Nat} {σ : L2.St} {H1 Hc : Hp} {Q : VK} {all : Bool} {ι1 : List Addr} {S1 : Store} {env : Env} {w : Walk} {J : L2.It} {Z : GX.Wish}
    (hsl : ∀ i ∈ slotsT t, i ∈ own) (stT : Step ι1 H1 ι1 Hc) (srT : SR K ι1 S1 Hc) (re1 : REnv K ι1 H1 env σ) (wk : Walks K J w ι1 H1)
    (g : Got K ι1 H1 (qlL all w t env own (fun e s => evTs F cs e s) (fun e s => evE F elt e s) w.items S1) (Rep K) Q)
    (hS : ∀ ys H, Q (.bl all) H → Z.St ys H) (hI : ∀ ys b H nx, (if b = all then nx else Q (.bl b) H) → Z.It ys (.bl b) H nx) :
    ∃ N0 W, (∃ m, W 0 [] m Hc) ∧ GX.Turns J Z N0 (TgS K t) (RdB K fun e s => evTs F cs e s) (RdE K F elt) own σ W := by
  let Wi : Nat → List V → Hp → Prop := fun i ys Hc => ∃ ιc Sc, Step ι1 H1 ιc Hc ∧ SR K ιc Sc Hc ∧ ys.length ≤ i ∧ i ≤ w.items.length ∧
    Got K ιc Hc (qlL all w t env own (fun e s => evTs F cs e s) (fun e s => evE F elt e s) (w.items.drop i) Sc) (Rep K) Q
  refine ⟨w.items.length, fun i ys m Hc => m = w.items.length - i ∧ Wi i ys Hc, ⟨w.items.length, by simp, ι1, S1, stT, srT, Nat.le_refl _, Nat.zero_le _, by simpa using got_step stT g⟩, ?_⟩
  rintro i ys m Hc ⟨rfl, ιc, Sc, stc, src, hy0, hi, gL⟩
  by_cases hlt : i < w.items.length
  · refine .inr ?_
    rw [List.drop_eq_getElem_cons hlt] at gL
    unfold qlL at gL
    split at gL
    · rename_i here
      split at gL
      · rename_i env1 e1
        refine ⟨wk.go i ιc Hc Sc stc.toMono src here hlt, Wi (i + 1), fun ys' H' hw => ⟨w.items.length - (i + 1), by omega, rfl, hw⟩, fun x Hy hy => ?_⟩
        obtain ⟨rd, sty, sry⟩ := wk.yld i ιc Hc Sc x Hy w.items[i] stc.toMono src here (List.getElem?_eq_getElem hlt) hy
        have stcy := stc.trans sty
        refine ⟨ιc, Sc, wipeE env own, w.items[i], env1, (re1.step stcy).wiped own, sry, rd, e1, fun σ1 re2 wok => ⟨?_, ?_⟩⟩
        · rw [wok own hsl]
          exact wipe_idem σ own
        · refine got_B (f := fun e s => evTs F cs e s) re2 sry (got_step sty gL) fun ι3 H3 b S3 st3 re3 sr3 g3 => ?_
          cases b with
          | true =>
            rw [if_pos rfl] at g3 ⊢
            refine got_E re3 sr3 g3 fun ι4 H4 y yv S4 st4 re4 sr4 ry g4 => ⟨by omega, ?_⟩
            split at g4
            · rename_i r
              obtain rfl := rep_bl ry
              refine hI _ _ _ _ ?_
              split at g4
              · rename_i hr
                rw [if_pos hr]
                exact ⟨ι4, S4, (stcy.trans st3).trans st4, sr4, by rw [List.length_append]; simp; omega, hlt, g4⟩
              · rename_i hr
                rw [if_neg hr]
                exact got_val g4 sr4 (to_bl _)
            · exact (got_bad g4).elim
          | false =>
            rw [if_neg Bool.false_ne_true] at g3 ⊢
            exact ⟨ι3, S3, stcy.trans st3, sr3, by omega, hlt, g3⟩
      · exact (got_bad gL).elim
    · exact (got_bad gL).elim
  · have hi2 : i = w.items.length := by omega
    subst hi2
    rw [List.drop_length] at gL
    unfold qlL at gL
    split at gL
    · rename_i here
      exact .inl ⟨wk.stop _ ιc Hc _ stc.toMono src here (Nat.le_refl _), hS _ _ (got_val gL src (to_bl _))⟩
    · exact (got_bad gL).elim
theorem any_read {K : PySem.W.Frag} {F : Fns} {elt : E} {t : Tg} {it : It} {cs : Es} {own : List Nat} {σ : L2.St} {H : Hp} {Q : VK} {cA P : Addr} (hP : (cA, P) ∈ Tabs.cs) (hsl : ∀ i ∈ slotsT t, i ∈ own)
    (h : RdE K F (.qual false elt t it cs own) σ H Q) : GX.tAnyG P (RdI K F it) (TgS K t) (RdB K fun e s => evTs F cs e s) (RdE K F elt) own σ H Q := by
  obtain ⟨ι, env, S, re, sr, g⟩ := h
  unfold evE at g
  obtain ⟨w, S1, ew, g1⟩ := got_bnd g
  refine ⟨ι, env, S, w, S1, re, sr, ew, fun ι1 H1 J st1 sr1 wk => ⟨sr1.tb _ hP, fun Hc hT => ?_⟩⟩
  refine ql_turns hsl (step_tab (ι := ι1) (sr1.tb _ hP) hT) (sr1.tabbed (sr1.tb _ hP) hT) (re.step st1) wk (got_step st1 g1) (fun ys H q => q) fun ys b H nx q => ⟨b, rfl, ?_⟩
  cases b with
  | true => exact q
  | false => exact q
theorem all_read {K : PySem.W.Frag} {F : Fns} {elt : E} {t : Tg} {it : It} {cs : Es} {own : List Nat} {σ : L2.St} {H : Hp} {Q : VK} {cA P : Addr} (hP : (cA, P) ∈ Tabs.cs) (hsl : ∀ i ∈ slotsT t, i ∈ own)
    (h : RdE K F (.qual true elt t it cs own) σ H Q) : GX.tAllG P (RdI K F it) (TgS K t) (RdB K fun e s => evTs F cs e s) (RdE K F elt) own σ H Q := by
  obtain ⟨ι, env, S, re, sr, g⟩ := h
  unfold evE at g
  obtain ⟨w, S1, ew, g1⟩ := got_bnd g
  refine ⟨ι, env, S, w, S1, re, sr, ew, fun ι1 H1 J st1 sr1 wk => ⟨sr1.tb _ hP, fun Hc hT => ?_⟩⟩
  refine ql_turns hsl (step_tab (ι := ι1) (sr1.tb _ hP) hT) (sr1.tabbed (sr1.tb _ hP) hT) (re.step st1) wk (got_step st1 g1) (fun ys H q => q) fun ys b H nx q => ⟨b, rfl, ?_⟩
  cases b with
  | true => exact q
  | false => exact q
theorem sum_read {K : PySem.W.Frag} {F : Fns} {elt : E} {t : Tg} {it : It} {cs : Es} {own : List Nat} {σ : L2.St} {H : Hp} {Q : VK} {cA P : Addr} (hP : (cA, P) ∈ Tabs.cs) (hsl : ∀ i ∈ slotsT t, i ∈ own)
    (h : RdE K F (.sumG elt t it cs own) σ H Q) : GX.tSumG P (RdI K F it) (TgS K t) (RdB K fun e s => evTs F cs e s) (RdE K F elt) own σ H Q := by
  obtain ⟨ι, env, S, re, sr, g⟩ := h
  unfold evE at g
  obtain ⟨w, S1, ew, g1⟩ := got_bnd g
  refine ⟨ι, env, S, w, S1, re, sr, ew, fun ι1 H1 J st1 sr1 wk => ⟨sr1.tb _ hP, fun Hc hT => ?_⟩⟩
  have re1 := re.step st1
  have stT := step_tab (ι := ι1) (sr1.tb _ hP) hT
  have srT := sr1.tabbed (sr1.tb _ hP) hT
  let Wi : Nat → List V → Hp → Prop := fun i ys Hc => ∃ ιc Sc, Step ι1 H1 ιc Hc ∧ SR K ιc Sc Hc ∧ ys.length ≤ i ∧ i ≤ w.items.length ∧
    Got K ιc Hc (smL w t env own (fun e s => evTs F cs e s) (fun e s => evE F elt e s) (w.items.drop i) (GX.sumV ys) Sc) (Rep K) Q
  refine ⟨w.items.length, fun i ys m Hc => m = w.items.length - i ∧ Wi i ys Hc, ⟨w.items.length, by simp, ι1, S1, stT, srT, Nat.le_refl _, Nat.zero_le _, by simpa [GX.sumV] using got_step (st1.trans stT) g1⟩, ?_⟩
  rintro i ys m Hc ⟨rfl, ιc, Sc, stc, src, hy0, hi, gL⟩
  by_cases hlt : i < w.items.length
  · refine .inr ?_
    rw [List.drop_eq_getElem_cons hlt] at gL
    unfold smL at gL
    split at gL
    · rename_i here
      split at gL
      · rename_i env1 e1
        refine ⟨wk.go i ιc Hc Sc stc.toMono src here hlt, Wi (i + 1), fun ys' H' hw => ⟨w.items.length - (i + 1), by omega, rfl, hw⟩, fun x Hy hy => ?_⟩
        obtain ⟨rd, sty, sry⟩ := wk.yld i ιc Hc Sc x Hy w.items[i] stc.toMono src here (List.getElem?_eq_getElem hlt) hy
        have stcy := stc.trans sty
        refine ⟨ιc, Sc, wipeE env own, w.items[i], env1, (re1.step stcy).wiped own, sry, rd, e1, fun σ1 re2 wok => ⟨?_, ?_⟩⟩
        · rw [wok own hsl]
          exact wipe_idem σ own
        · refine got_B (f := fun e s => evTs F cs e s) re2 sry (got_step sty gL) fun ι3 H3 b S3 st3 re3 sr3 g3 => ?_
          cases b with
          | true =>
            rw [if_pos rfl] at g3 ⊢
            refine got_E re3 sr3 g3 fun ι4 H4 y yv S4 st4 re4 sr4 ry g4 => ⟨by omega, ?_⟩
            split at g4
            · rename_i r
              obtain rfl := rep_int ry
              split at g4
              · rename_i hr
                refine ⟨r, rfl, hr.1, hr.2, ι4, S4, (stcy.trans st3).trans st4, sr4, by rw [List.length_append]; simp; omega, hlt, ?_⟩
                rw [GX.sumV_app]
                exact g4
              · exact (got_bad g4).elim
            · exact (got_bad g4).elim
          | false =>
            rw [if_neg Bool.false_ne_true] at g3 ⊢
            exact ⟨ι3, S3, stcy.trans st3, sr3, by omega, hlt, g3⟩
      · exact (got_bad gL).elim
    · exact (got_bad gL).elim
  · have hi2 : i = w.items.length := by omega
    subst hi2
    rw [List.drop_length] at gL
    unfold smL at gL
    split at gL
    · rename_i here
      exact .inl ⟨wk.stop _ ιc Hc _ stc.toMono src here (Nat.le_refl _), got_val gL src (to_int _)⟩
    · exact (got_bad gL).elim

/-! ### list comprehensions with two clauses -/
theorem Mono.trans {ι ι' ι'' : List Addr} {H H' H'' : Hp} (a : Mono ι H ι' H') (b : Mono ι' H' ι'' H'') : Mono ι H ι'' H'' where
  pre := by
    obtain ⟨t, e⟩ := a.pre
    obtain ⟨u, f⟩ := b.pre
    exact ⟨t ++ u, by rw [f, e, List.append_assoc]⟩
  tup := fun c xs h => b.tup c xs (a.tup c xs h)
  frz := fun c o u h => b.frz c o u (a.frz c o u h)
theorem REnv.mono {K : PySem.W.Frag} {ι ι' : List Addr} {H H' : Hp} (s : Mono ι H ι' H') {env : Env} {σ : L2.St} (h : REnv K ι H env σ) : REnv K ι' H' env σ :=
  ⟨h.1, fun i d e => let ⟨v, e1, r⟩ := h.2 i d e; ⟨v, e1, Rep.mono s d v r⟩⟩
structure Acc (K : PySem.W.Frag) (ι1 : List Addr) (H1 : Hp) (Dd : Addr) (ιc : List Addr) (Hc : Hp) (Sc : Store) (acc : List D) : Prop where
  st : Step ι1 H1 ιc Hc
  nD : Dd ∉ ιc
  sr : SR K ιc Sc Hc
  lst : ∃ accV, Hc Dd = some (.lst accV) ∧ Reps K ιc Hc acc accV
theorem Acc.step {K : PySem.W.Frag} {ι1 : List Addr} {H1 : Hp} {Dd : Addr} {ιc : List Addr} {Hc : Hp} {Sc : Store} {acc : List D} (a : Acc K ι1 H1 Dd ιc Hc Sc acc) {ι' : List Addr} {H' : Hp} {S' : Store} (st : Step ιc Hc ι' H') (sr : SR K ι' S' H') : Acc K ι1 H1 Dd ι' H' S' acc := by
  obtain ⟨v, e, r⟩ := a.lst
  refine ⟨a.st.trans st, fun z => ?_, sr, v, st.keep Dd _ e a.nD (fun ps z => by cases z), Reps.step st acc v r⟩
  have := st.new Dd z a.nD
  rw [e] at this
  cases this
theorem Acc.push {K : PySem.W.Frag} {ι1 : List Addr} {H1 : Hp} {Dd : Addr} {ιc : List Addr} {Hc : Hp} {Sc : Store} {acc : List D} (a : Acc K ι1 H1 Dd ιc Hc Sc acc) (hD : H1 Dd = none) {y : D} {yv : V} (ry : Rep K ιc Hc y yv) :
    ∃ accV, Hc Dd = some (.lst accV) ∧ accV.length = acc.length ∧ Acc K ι1 H1 Dd ιc (upd Hc Dd (.lst (accV ++ [yv]))) Sc (acc ++ [y]) := by
  obtain ⟨v, e, r⟩ := a.lst
  exact ⟨v, e, r.len.symm, step_out a.st hD, a.nD, a.sr.out a.nD e, _, upd_same, Reps.mono (mono_out e) _ _ (r.append (.cons ry .nil))⟩
theorem lc2_read {K : PySem.W.Frag} {F : Fns} {elt : E} {t t1 : Tg} {it it1 : It} {cs cs1 : Es} {own own1 : List Nat} {σ : L2.St} {H : Hp} {Q : VK} (hsl : ∀ i ∈ slotsT t, i ∈ own) (hsl1 : ∀ i ∈ slotsT t1, i ∈ own1)
    (h : RdE K F (.lc2 elt t it cs own t1 it1 cs1 own1) σ H Q) : tLc2 (RdI K F it) (TgS K t) (RdB K fun e s => evTs F cs e s) (RdI K F it1) (TgS K t1) (RdB K fun e s => evTs F cs1 e s) (RdE K F elt) own own1 σ H Q := by
  obtain ⟨ι, env, S, re, sr, g⟩ := h
  unfold evE at g
  obtain ⟨w, S1, ew, g1⟩ := got_bnd g
  obtain ⟨ds, S2, el, g2⟩ := got_bnd g1
  refine ⟨ι, env, S, w, S1, re, sr, ew, fun ι1 H1 J st1 sr1 wk Dd hD => ?_⟩
  have re1 := re.step st1
  have g3 := got_step st1 g2
  let inn : Env → List D → Store → Res (List D) := fun e acc s => (evIt F it1 e s).bnd fun w1 s1 => lcL w1 t1 e own1 (fun e s => evTs F cs1 e s) (fun e s => evE F elt e s) w1.items acc s1
  let Wi : Nat → Hp → Prop := fun i Hc => ∃ ιc Sc acc, Acc K ι1 H1 Dd ιc Hc Sc acc ∧ i ≤ w.items.length ∧ lc2L w t env own (fun e s => evTs F cs e s) inn (w.items.drop i) acc Sc = .ok ds S2
  refine ⟨fun i m Hc => m = w.items.length - i ∧ Wi i Hc, ⟨w.items.length, by simp, ι1, S1, [], ⟨step_laid hD, sr1.notMem hD, sr1.laid hD, [], upd_same, Reps.nil⟩, Nat.zero_le _, by simpa using el⟩, ?_⟩
  rintro i m Hc ⟨rfl, ιc, Sc, acc, ac, hi, eL⟩
  by_cases hlt : i < w.items.length
  · refine .inr ?_
    rw [List.drop_eq_getElem_cons hlt] at eL
    unfold lc2L at eL
    split at eL
    · rename_i here
      split at eL
      · rename_i env1 e1
        refine ⟨wk.go i ιc Hc Sc ac.st.toMono ac.sr here hlt, Wi (i + 1), fun H' hw => ⟨w.items.length - (i + 1), by omega, rfl, hw⟩, fun x Hy hy => ?_⟩
        obtain ⟨rd, sty, sry⟩ := wk.yld i ιc Hc Sc x Hy w.items[i] ac.st.toMono ac.sr here (List.getElem?_eq_getElem hlt) hy
        have acy := ac.step sty sry
        refine ⟨ιc, Sc, wipeE env own, w.items[i], env1, (re1.step acy.st).wiped own, sry, rd, e1, fun σ1 re2 wok => ⟨?_, ?_⟩⟩
        · rw [wok own hsl]
          exact wipe_idem σ own
        · obtain ⟨b, S3, eb, el2⟩ := bnd_eq_ok eL
          refine ⟨ιc, env1, Sc, re2, sry, b, S3, eb, fun ι3 H3 b' st3 sr3 hb => ?_⟩
          subst hb
          have ac3 := acy.step st3 sr3
          have re3 := re2.step st3
          cases b with
          | false =>
            rw [if_neg Bool.false_ne_true] at el2 ⊢
            exact ⟨ι3, S3, acc, ac3, hlt, el2⟩
          | true =>
            rw [if_pos rfl] at el2 ⊢
            obtain ⟨acc1, S5, ei, el3⟩ := bnd_eq_ok el2
            obtain ⟨w1, S4, ew1, ei1⟩ := bnd_eq_ok ei
            refine ⟨ι3, env1, S3, w1, S4, re3, sr3, ew1, fun ι4 H4 J1 st4 sr4 wk1 => ?_⟩
            have ac4 := ac3.step st4 sr4
            have re4 := re3.step st4
            let Wj : Nat → Hp → Prop := fun j Hd => ∃ ιd Sd accd, Acc K ι1 H1 Dd ιd Hd Sd accd ∧ Mono ι4 H4 ιd Hd ∧ j ≤ w1.items.length ∧ lcL w1 t1 env1 own1 (fun e s => evTs F cs1 e s) (fun e s => evE F elt e s) (w1.items.drop j) accd Sd = .ok acc1 S5
            refine ⟨fun j k Hd => k = w1.items.length - j ∧ Wj j Hd, ⟨w1.items.length, by simp, ι4, S4, acc, ac4, (Step.refl (ι := ι4) (H := H4)).toMono, Nat.zero_le _, by simpa using ei1⟩, ?_⟩
            rintro j k Hd ⟨rfl, ιd, Sd, accd, ad, ad4, hj, eM⟩
            by_cases hlj : j < w1.items.length
            · refine .inr ?_
              rw [List.drop_eq_getElem_cons hlj] at eM
              unfold lcL at eM
              split at eM
              · rename_i here1
                split at eM
                · rename_i env2 e2
                  refine ⟨wk1.go j ιd Hd Sd ad4 ad.sr here1 hlj, Wj (j + 1), fun H' hw => ⟨w1.items.length - (j + 1), by omega, rfl, hw⟩, fun x Hz hz => ?_⟩
                  obtain ⟨rd1, stz, srz⟩ := wk1.yld j ιd Hd Sd x Hz w1.items[j] ad4 ad.sr here1 (List.getElem?_eq_getElem hlj) hz
                  have adz := ad.step stz srz
                  have adz4 := ad4.trans stz.toMono
                  refine ⟨ιd, Sd, wipeE env1 own1, w1.items[j], env2, (re4.mono adz4).wiped own1, srz, rd1, e2, fun σ3 re5 wok1 => ⟨?_, ?_⟩⟩
                  · rw [wok1 own1 hsl1]
                    exact wipe_idem σ1 own1
                  · obtain ⟨b, S6, eb, em2⟩ := bnd_eq_ok eM
                    refine ⟨ιd, env2, Sd, re5, srz, b, S6, eb, fun ι6 H6 b' st6 sr6 hb => ?_⟩
                    subst hb
                    have ad6 := adz.step st6 sr6
                    have ad64 := adz4.trans st6.toMono
                    cases b with
                    | false =>
                      rw [if_neg Bool.false_ne_true] at em2 ⊢
                      exact ⟨ι6, S6, accd, ad6, ad64, hlj, em2⟩
                    | true =>
                      rw [if_pos rfl] at em2 ⊢
                      obtain ⟨y, S7, ey, em3⟩ := bnd_eq_ok em2
                      refine ⟨ι6, env2, S6, re5.step st6, sr6, y, S7, ey, fun ι7 H7 yv st7 sr7 ry => ?_⟩
                      split at em3
                      · rename_i hl
                        obtain ⟨accV, q1, q2, q3⟩ := (ad6.step st7 sr7).push hD ry
                        refine ⟨accV, q1, by rw [← line_eq, q2]; exact hl, ι7, S7, accd ++ [y], q3, ?_, hlj, em3⟩
                        exact (ad64.trans st7.toMono).trans (mono_out q1)
                      · cases em3
                · cases eM
              · cases eM
            · have hj2 : j = w1.items.length := by omega
              subst hj2
              rw [List.drop_length] at eM
              unfold lcL at eM
              split at eM
              · rename_i here1
                cases eM
                refine .inl ⟨wk1.stop _ ιd Hd _ ad4 ad.sr here1 (Nat.le_refl _), ?_⟩
                exact ⟨ιd, _, _, ad, hlt, el3⟩
              · cases eM
      · cases eL
    · cases eL
  · have hi2 : i = w.items.length := by omega
    subst hi2
    rw [List.drop_length] at eL
    unfold lc2L at eL
    split at eL
    · rename_i here
      cases eL
      refine .inl ⟨wk.stop _ ιc Hc _ ac.st.toMono ac.sr here (Nat.le_refl _), ?_⟩
      obtain ⟨accV, eD, ra⟩ := ac.lst
      unfold new at g3
      refine got_ok g3 (ιc ++ [Dd]) Hc (.ref Dd) (step_add ac.st hD) (ac.sr.add ac.nD eD ra) ?_
      unfold Rep
      exact ⟨Dd, rfl, new_get ac.sr Dd⟩
    · cases eL
end
end SX
namespace SX
open PySem PySem.Spec PyProof.Rows L2
noncomputable section
open Classical
theorem ev_and2 {F : Fns} {e e' : E} {es : Es} {env : Env} {S : Store} : evAnd F (.cons e (.cons e' es)) env S = (evE F e env S).bnd fun d S1 => match truD d S1 with
    | some true => evAnd F (.cons e' es) env S1
    | some false => .ok d S1
    | none => .bad := by
  rw [evAnd]
  all_goals first
    | rfl
    | (intro h; cases h)
theorem ev_or2 {F : Fns} {e e' : E} {es : Es} {env : Env} {S : Store} : evOr F (.cons e (.cons e' es)) env S = (evE F e env S).bnd fun d S1 => match truD d S1 with
    | some false => evOr F (.cons e' es) env S1
    | some true => .ok d S1
    | none => .bad := by
  rw [evOr]
  all_goals first
    | rfl
    | (intro h; cases h)
theorem ev_and1 {F : Fns} {e : E} {env : Env} {S : Store} : evAnd F (.cons e .nil) env S = evE F e env S := by rw [evAnd]
theorem ev_or1 {F : Fns} {e : E} {env : Env} {S : Store} : evOr F (.cons e .nil) env S = evE F e env S := by rw [evOr]
variable [Tabs]

theorem got_call {K : PySem.W.Frag} {ι : List Addr} {H : Hp} {S : Store} {ds : List D} {vs : List V} {φ : List D → Store → Res D} {Q : VK} {n : Nat} (sr : SR K ι S H) (r : Reps K ι H ds vs) (hl : ∀ ds S d S', φ ds S = .ok d S' → ds.length = n)
    (g : Got K ι H (φ ds S) (Rep K) Q) : GSp K n φ vs H Q E0 := by
  obtain ⟨d, S', e, q⟩ := id g
  exact ⟨by rw [← r.len]; exact hl _ _ _ _ e, ι, S, ds, sr, r, g⟩
/-- a test by its value's truth -/
theorem tru_read {K : PySem.W.Frag} {F : Fns} {e : E} {σ : L2.St} {H : Hp} {Q : Bool → Hp → Prop} (h : RdB K (fun env S => truR (evE F e env S)) σ H Q) : RdE K F e σ H fun x H' => ∃ k, TruV K x H' k ∧ Q k H' := by
  obtain ⟨ι, env, S, re, sr, g⟩ := h
  unfold truR at g
  refine got_E re sr g fun ι1 H1 d v S1 st re1 sr1 r g1 => ?_
  split at g1
  · rename_i b e
    exact ⟨b, tru_of sr1 r e, got_ok g1 ι1 H1 b Step.refl sr1 rfl⟩
  · exact (got_bad g1).elim
theorem gl_in {c : Cn} {F : Fns} {X : Cx} {x : Str} (f : Fits c F X) (h : glB c.sc x = true) : Gl X x ∧ (x == ("__debug__" : Str)) = false := by
  obtain ⟨g1, g2⟩ := gl_of h
  refine ⟨?_, g2⟩
  show X.env.scope.names.lookup x = _
  rw [f.sc]
  exact g1

theorem boOp_inj (op : BO) : True := trivial
theorem evEs_len {F : Fns} : ∀ {es : Es} {env : Env} {S S' : Store} {ds : List D}, evEs F es env S = .ok ds S' → ds.length = es.len
  | .nil, _, _, _, _, e => by unfold evEs at e; cases e; rfl
  | .cons x es, env, S, S', ds, e => by
    unfold evEs at e
    obtain ⟨d, S1, _, e2⟩ := bnd_eq_ok e
    obtain ⟨r, S2, e3, e4⟩ := bnd_eq_ok e2
    cases e4
    rw [List.length_cons, evEs_len e3]
    rfl
theorem ckEs_len {c : Cn} : ∀ {es : Es} {xs : List Expr}, ckEs c es xs = true → es.len = xs.length
  | .nil, [], _ => rfl
  | .nil, _ :: _, h => by simp [ckEs] at h
  | .cons _ _, [], h => by simp [ckEs] at h
  | .cons e es, x :: xs, h => by
    unfold ckEs at h
    rw [Bool.and_eq_true] at h
    rw [List.length_cons, ← ckEs_len h.2]
    rfl
theorem ckKs_len {c : Cn} : ∀ {es : Es} {xs : List Keyword}, ckKs c es xs = true → es.len = xs.length
  | .nil, [], _ => rfl
  | .nil, _ :: _, h => by simp [ckKs] at h
  | .cons _ _, [], h => by simp [ckKs] at h
  | .cons e es, ⟨none, x, p⟩ :: xs, h => by simp [ckKs] at h
  | .cons e es, ⟨some n, x, p⟩ :: xs, h => by
    unfold ckKs at h
    rw [Bool.and_eq_true] at h
    rw [List.length_cons, ← ckKs_len h.2]
    rfl
theorem kw_len : ∀ {xs : List Keyword} {ns : List Str}, kwNames xs = some ns → xs.length = ns.length
  | [], ns, h => by unfold kwNames at h; cases h; rfl
  | ⟨none, x, p⟩ :: xs, ns, h => by unfold kwNames at h; cases h
  | ⟨some n, x, p⟩ :: xs, ns, h => by
    unfold kwNames at h
    obtain ⟨ms, e, rfl⟩ := Option.map_eq_some_iff.mp h
    rw [List.length_cons, List.length_cons, kw_len e]
theorem bnd_assoc {α β γ : Type} (r : Res α) (k : α → Store → Res β) (m : β → Store → Res γ) : (r.bnd k).bnd m = r.bnd fun a S => (k a S).bnd m := by
  cases r <;> rfl
theorem got_not {K : PySem.W.Frag} {F : Fns} {a : E} {env : Env} {S : Store} {ι : List Addr} {H : Hp} {Q : Bool → Hp → Prop} (g : Got K ι H (truR ((truR (evE F a env S)).bnd fun b S1 => .ok (.bl (!b)) S1)) (fun _ _ a b => a = b) Q) :
    ∃ b S1, truR (evE F a env S) = .ok b S1 ∧ Got K ι H (.ok (!b) S1) (fun _ _ a b => a = b) Q := by
  unfold truR at g
  rw [bnd_assoc] at g
  obtain ⟨b, S1, e, g1⟩ := got_bnd g
  exact ⟨b, S1, e, g1⟩
/-- what is no test of its own form -/
def plainT : E → Bool
  | .not _ => false
  | .and _ => false
  | .or _ => false
  | .cmp _ _ _ => false
  | .chain _ _ _ _ _ => false
  | .ite _ _ _ => false
  | _ => true
theorem plain_of {c : Cn} {e : E} {ex : Expr} {env : PySem.Env} (h : ckE c e ex = true) (p : plainT e = true) : ∀ whole, isTrue ex env whole = (do let v ← whole; standAt ex.pos; holding [v] (truthy v)) := by
  intro whole
  cases ex with
  | UnaryOp op x q => cases op <;> first | rfl | (cases e <;> first | (simp [ckE] at h; done) | (exact Bool.noConfusion (show false = true from p)))
  | BoolOp op x q => cases e <;> first | (simp [ckE] at h; done) | (exact Bool.noConfusion (show false = true from p))
  | Compare l os rs q => cases e <;> first | (simp [ckE] at h; done) | (exact Bool.noConfusion (show false = true from p))
  | IfExp t a b q => cases e <;> first | (simp [ckE] at h; done) | (exact Bool.noConfusion (show false = true from p))
  | _ => rfl
/-- a op b op' c -/
theorem chain_read {K : PySem.W.Frag} {F : Fns} {op op' : CO} {a b c : E} {σ : L2.St} {H : Hp} {Q : VK} (h : RdE K F (.chain op op' a b c) σ H Q) :
    tChain (OpS K fun a b S => ofB (cmpD op a b S) S) (OpS K fun a b S => ofB (cmpD op' a b S) S) (RdE K F a) (RdE K F b) (RdE K F c) σ H Q := by
  obtain ⟨ι, env, S, re, sr, g⟩ := h
  unfold evE at g
  refine got_E re sr g fun ι1 H1 d v S1 st re1 sr1 r g1 => ?_
  refine got_E re1 sr1 g1 fun ι2 H2 d2 v2 S2 st2 re2 sr2 r2 g2 => ?_
  refine ⟨ι2, S2, d, d2, sr2, Rep.step st2 _ _ r, r2, ?_⟩
  obtain ⟨z, S3, e3, g3⟩ := got_bnd g2
  refine ⟨z, S3, e3, fun ι3 H3 v3 st3 sr3 r3 => ?_⟩
  unfold ofB at e3
  split at e3
  · rename_i k ek
    cases e3
    refine ⟨k, rep_bl r3, ?_⟩
    have g4 := got_step st3 g3
    cases k with
    | false =>
      rw [if_neg Bool.false_ne_true]
      exact got_val g4 sr3 (to_bl _)
    | true =>
      rw [if_pos rfl]
      refine got_E (re2.step st3) sr3 g4 fun ι5 H5 d5 v5 S5 st5 re5 sr5 r5 g5 => ?_
      exact ⟨ι5, S5, d2, d5, sr5, Rep.step (st3.trans st5) _ _ r2, r5, g5⟩
  · cases e3
theorem lc_ok {F : Fns} (t : Tg) (own : List Nat) (c : Cn) (X : Cx) (tg : Expr) (scope : Scope) (f : Fits c F X)
    (h2 : blkC c.N c.sc scope (ownP c.N own) = true) (h3 : (slotsT t).all (fun i => own.contains i) = true) (h4 : own.all (fun i => locB scope (c.N.getD i "")) = true)
    (h5 : ckT { c with sc := relS scope c.sc } t tg = true) :
    BlkOk X.N X.env.scope scope (ownP c.N own) ∧
    (∀ (s : Shared) (H : Hp) (C : Addr) (cl : List (Str × Addr)) (fp : List Addr), PG (X.blk s H scope (compEnvC scope cl C X.env) fp) tg (TgS X.K t)) ∧ ∀ i ∈ slotsT t, i ∈ own := by
  have hsl : ∀ i ∈ slotsT t, i ∈ own := fun i hi => by
    have := List.all_eq_true.mp h3 i hi
    simpa using this
  refine ⟨?_, fun s H C cl fp => ?_, hsl⟩
  · rw [f.N, f.sc]
    exact blkOk_by h2
  · have f' := f.blk s H scope C cl fp
    refine pg_T f'.calm f'.N f'.nd f'.sc t tg h5 fun i hi x hx => ?_
    have hl := loc_of (List.all_eq_true.mp h4 i (hsl i hi))
    have ex : c.N.getD i "" = x := by
      rw [List.getD_eq_getElem?_getD, show c.N[i]? = some x from hx]
      rfl
    rw [ex] at hl
    rcases hl with hl | hl
    · right
      rw [f'.sc]
      exact lookup_relS_keep (by decide) hl
    · left
      show (scope.names.lookup x == some .cell) = true
      rw [hl]
      rfl
set_option maxHeartbeats 8000000 in
mutual
theorem sn_E (F : Fns) : ∀ (e : E) (c : Cn) (X : Cx) (ex : Expr), Fits c F X → ckE c e ex = true → PE X ex (RdE X.K F e)
  | .var i, c, X, ex, f, h => by
    unfold ckE at h
    split at h
    · rename_i x p
      simp only [Bool.and_eq_true, decide_eq_true_eq] at h
      refine PE.imp (pe_var (i := i) (by rw [f.N]; exact h.1.1.1) (by rw [f.sc]; exact vis_of h.1.1.2) (by simpa using h.1.2) (by simpa using h.2)) fun σ H Q q => ?_
      obtain ⟨ι, env, S, re, sr, g⟩ := q
      unfold evE at g
      split at g
      · rename_i d ed
        obtain ⟨v, e1, r⟩ := re.2 i d ed
        exact ⟨v, e1, got_val g sr r⟩
      · exact (got_bad g).elim
    · cases h
  | .cint i, c, X, ex, f, h => by
    unfold ckE at h
    split at h
    · obtain rfl := of_decide_eq_true h
      refine PE.imp pe_int fun σ H Q q => ?_
      obtain ⟨ι, env, S, re, sr, g⟩ := q
      unfold evE at g
      exact got_val g sr (to_int _)
    · cases h
  | .cbl i, c, X, ex, f, h => by
    unfold ckE at h
    split at h
    · obtain rfl := of_decide_eq_true h
      refine PE.imp pe_bl fun σ H Q q => ?_
      obtain ⟨ι, env, S, re, sr, g⟩ := q
      unfold evE at g
      exact got_val g sr (to_bl _)
    · cases h
  | .cnon, c, X, ex, f, h => by
    unfold ckE at h
    split at h
    · refine PE.imp pe_non fun σ H Q q => ?_
      obtain ⟨ι, env, S, re, sr, g⟩ := q
      unfold evE at g
      exact got_val g sr to_non
    · cases h
  | .cstr i, c, X, ex, f, h => by
    unfold ckE at h
    split at h
    · obtain rfl := of_decide_eq_true h
      refine PE.imp pe_str fun σ H Q q => ?_
      obtain ⟨ι, env, S, re, sr, g⟩ := q
      unfold evE at g
      exact got_val g sr (to_str _)
    · cases h
  | .tup es, c, X, ex, f, h => by
    unfold ckE at h
    split at h
    · refine PE.imp (pe_tup (sn_Es F es c X _ f h)) fun σ H Q q => ?_
      obtain ⟨ι, env, S, re, sr, g⟩ := q
      unfold evE at g
      refine got_Es re sr g fun ι1 H1 ds vs S1 st re1 sr1 r g1 => ?_
      rcases got_ite g1 with ⟨hl, g1⟩ | ⟨_, g1⟩
      · exact ⟨by rw [← line_eq, ← r.len]; exact hl, got_tup g1 sr1 r⟩
      · exact (got_bad g1).elim
    · cases h
  | .lst es, c, X, ex, f, h => by
    unfold ckE at h
    split at h
    · refine PE.imp (pe_lst (sn_Es F es c X _ f h)) fun σ H Q q => ?_
      obtain ⟨ι, env, S, re, sr, g⟩ := q
      unfold evE at g
      refine got_Es re sr g fun ι1 H1 ds vs S1 st re1 sr1 r g1 => ?_
      rcases got_ite g1 with ⟨hl, g1⟩ | ⟨_, g1⟩
      · exact ⟨by rw [← line_eq, ← r.len]; exact hl, got_new g1 sr1 r⟩
      · exact (got_bad g1).elim
    · cases h
  | .bin op a b, c, X, ex, f, h => by
    unfold ckE at h
    split at h
    · simp only [Bool.and_eq_true, decide_eq_true_eq] at h
      obtain ⟨⟨rfl, h1⟩, h2⟩ := h
      refine PE.imp (pe_op (op_bin op) (sn_E F a c X _ f h1) (sn_E F b c X _ f h2)) fun σ H Q q => ?_
      obtain ⟨ι, env, S, re, sr, g⟩ := q
      unfold evE at g
      refine got_E re sr g fun ι1 H1 d v S1 st re1 sr1 r g1 => ?_
      refine got_E re1 sr1 g1 fun ι2 H2 d2 v2 S2 st2 re2 sr2 r2 g2 => ?_
      exact ⟨ι2, S2, d, d2, sr2, Rep.step st2 _ _ r, r2, g2⟩
    · cases h
  | .neg a, c, X, ex, f, h => by
    unfold ckE at h
    split at h
    · refine PE.imp (pe_un un_neg (sn_E F a c X _ f h)) fun σ H Q q => ?_
      obtain ⟨ι, env, S, re, sr, g⟩ := q
      unfold evE at g
      refine got_E re sr g fun ι1 H1 d v S1 st re1 sr1 r g1 => ?_
      split at g1
      · rename_i i
        exact ⟨i, rep_int r, got_val g1 sr1 (to_int _)⟩
      · exact (got_bad g1).elim
    · cases h
  | .not a, c, X, ex, f, h => by
    unfold ckE at h
    split at h
    · refine PE.imp (pe_notT (sn_E F a c X _ f h)) fun σ H Q q => ?_
      obtain ⟨ι, env, S, re, sr, g⟩ := q
      unfold evE at g
      unfold truR at g
      obtain ⟨b, S1, e1, g1⟩ := got_bnd g
      obtain ⟨d, S2, e2, e3⟩ := bnd_eq_ok e1
      refine ⟨ι, env, S, re, sr, d, S2, e2, fun ι1 H1 v st sr1 r => ?_⟩
      split at e3
      · rename_i b' eb
        cases e3
        exact ⟨b, tru_of sr1 r eb, got_val (got_step st g1) sr1 (to_bl _)⟩
      · cases e3
    · cases h
  | .and es, c, X, ex, f, h => by
    unfold ckE at h
    split at h
    · refine PE.imp (sn_and F es c X _ _ f h) fun σ H Q q => ?_
      obtain ⟨ι, env, S, re, sr, g⟩ := q
      unfold evE at g
      exact ⟨ι, env, S, re, sr, g⟩
    · cases h
  | .or es, c, X, ex, f, h => by
    unfold ckE at h
    split at h
    · refine PE.imp (sn_or F es c X _ _ f h) fun σ H Q q => ?_
      obtain ⟨ι, env, S, re, sr, g⟩ := q
      unfold evE at g
      exact ⟨ι, env, S, re, sr, g⟩
    · cases h
  | .cmp op a b, c, X, ex, f, h => by
    unfold ckE at h
    split at h
    · simp only [Bool.and_eq_true, decide_eq_true_eq] at h
      obtain ⟨⟨rfl, h1⟩, h2⟩ := h
      refine PE.imp (pe_cmpR (op_cmp f.un op) (sn_E F a c X _ f h1) (sn_E F b c X _ f h2) (ck_marks h2 _)) fun σ H Q q => ?_
      obtain ⟨ι, env, S, re, sr, g⟩ := q
      unfold evE at g
      refine got_E re sr g fun ι1 H1 d v S1 st re1 sr1 r g1 => ?_
      refine got_E re1 sr1 g1 fun ι2 H2 d2 v2 S2 st2 re2 sr2 r2 g2 => ?_
      exact ⟨ι2, S2, d, d2, sr2, Rep.step st2 _ _ r, r2, g2⟩
    · cases h
  | .ite k a b, c, X, ex, f, h => by
    unfold ckE at h
    split at h
    · simp only [Bool.and_eq_true] at h
      obtain ⟨⟨h0, h1⟩, h2⟩ := h
      refine PE.imp (pe_ifExp (sn_T F k c X _ f h0 (sn_E F k c X _ f h0)) (sn_E F a c X _ f h1) (sn_E F b c X _ f h2)) fun σ H Q q => ?_
      obtain ⟨ι, env, S, re, sr, g⟩ := q
      unfold evE at g
      refine got_B (f := fun env S => truR (evE F k env S)) re sr g fun ι1 H1 d S1 st re1 sr1 g1 => ?_
      cases d with
      | true => exact ⟨ι1, env, S1, re1, sr1, g1⟩
      | false => exact ⟨ι1, env, S1, re1, sr1, g1⟩
    · cases h
  | .idx a b, c, X, ex, f, h => by
    unfold ckE at h
    split at h
    · simp only [Bool.and_eq_true] at h
      refine PE.imp (pe_ix ix_S (sn_E F a c X _ f h.1) (sn_E F b c X _ f h.2) (ck_plainIx h.2)) fun σ H Q q => ?_
      obtain ⟨ι, env, S, re, sr, g⟩ := q
      unfold evE at g
      refine got_E re sr g fun ι1 H1 d v S1 st re1 sr1 r g1 => ?_
      refine got_E re1 sr1 g1 fun ι2 H2 d2 v2 S2 st2 re2 sr2 r2 g2 => ?_
      exact ⟨ι2, S2, d, d2, sr2, Rep.step st2 _ _ r, r2, g2⟩
    · cases h
  | .slc a lo hi, c, X, ex, f, h => by
    unfold ckE at h
    split at h
    · rename_i v l hh p1 p2
      simp only [Bool.and_eq_true] at h
      obtain ⟨⟨h0, h1⟩, h2⟩ := h
      have po : ∀ (o : Option Expr) (e : E), (match o with | none => isAbs e | some x => ckE c e x) = true → (∀ x, o = some x → ckE c e x = true → PE X x (RdE X.K F e)) →
          PO X o (fun σ H Q => ∃ ι env S, REnv X.K ι H env σ ∧ SR X.K ι S H ∧ Got X.K ι H (if isAbs e = true then .ok none S else optI (evE F e env S)) (fun _ _ a b => a = b) Q) := by
        intro o e ho hp
        cases o with
        | none =>
          have e1 : isAbs e = true := ho
          refine ⟨fun pins s σ H Q I q => po_none.run pins s σ H Q I ?_⟩
          obtain ⟨ι, env, S, re, sr, g⟩ := q
          rw [if_pos e1] at g
          exact got_ok g ι H none Step.refl sr rfl
        | some x =>
          have hx : ckE c e x = true := ho
          refine ⟨fun pins s σ H Q I q => (po_some (hp x rfl hx)).run pins s σ H Q I ?_⟩
          obtain ⟨ι, env, S, re, sr, g⟩ := q
          have e1 : ¬ isAbs e = true := by
            cases e <;> first | exact Bool.false_ne_true | (simp [ckE] at hx)
          rw [if_neg e1] at g
          unfold optI at g
          refine got_E re sr g fun ι1 H1 d v S1 st re1 sr1 r g1 => ?_
          split at g1
          · rename_i i
            exact ⟨i, rep_int r, got_ok g1 ι1 H1 _ Step.refl sr1 rfl⟩
          · exact (got_bad g1).elim
      refine PE.imp (pe_slice sl_S (sn_E F a c X _ f h0) (po l lo h1 fun x _ hx => sn_E F lo c X x f hx) (po hh hi h2 fun x _ hx => sn_E F hi c X x f hx)) fun σ H Q q => ?_
      obtain ⟨ι, env, S, re, sr, g⟩ := q
      unfold evE at g
      refine got_E re sr g fun ι1 H1 d v S1 st re1 sr1 r g1 => ?_
      obtain ⟨lo', S2, e2, g2⟩ := got_bnd g1
      refine ⟨ι1, env, S1, re1, sr1, lo', S2, e2, fun ι2 H2 l2 st2 sr2 hl => ?_⟩
      subst hl
      obtain ⟨hi', S3, e3, g3⟩ := got_bnd (got_step st2 g2)
      refine ⟨ι2, env, S2, re1.step st2, sr2, hi', S3, e3, fun ι3 H3 l3 st3 sr3 hl => ?_⟩
      subst hl
      exact ⟨ι3, S3, d, sr3, Rep.step (st2.trans st3) _ _ r, got_step st3 g3⟩
    · cases h
  | .absent, c, X, ex, f, h => by unfold ckE at h; cases h
  | .call g es, c, X, ex, f, h => by
    unfold ckE at h
    split at h
    · rename_i x p fs pos
      simp only [Bool.and_eq_true, decide_eq_true_eq] at h
      obtain ⟨⟨⟨h0, rfl⟩, h2⟩, h3⟩ := h
      obtain ⟨gl, gd⟩ := gl_in f h2
      obtain ⟨fa, fd, ps, k, hm, hk, ok, room, bi, _, hlen⟩ := f.fns g h0
      cases fs with
      | nil =>
        refine PE.imp (pe_call0 ok room gl hm hk bi .nil pass0 gd) fun σ H Q q => ?_
        obtain ⟨ι, env, S, re, sr, gg⟩ := q
        unfold evE at gg
        cases es with
        | cons _ _ => simp [ckEs] at h3
        | nil =>
          unfold evEs at gg
          rw [bnd_ok] at gg
          exact got_call sr .nil hlen gg
      | cons e0 fs =>
        have hst : noStar e0 = true := by
          cases es with
          | nil => simp [ckEs] at h3
          | cons e1 es1 =>
            unfold ckEs at h3
            rw [Bool.and_eq_true] at h3
            exact ck_star h3.1
        have hpl := back_plain (pos := pos) (env := X.env) h3
        rw [star_each hst] at hpl
        refine PE.imp (pe_call ok room gl hm hk bi .nil pass0 (sn_Es F es c X _ f h3) gd (star_each hst) (by unfold backTo at hpl ⊢; rw [List.map_cons, List.any_cons, Bool.or_eq_false_iff] at hpl; exact hpl.2)) fun σ H Q q => ?_
        obtain ⟨ι, env, S, re, sr, gg⟩ := q
        unfold evE at gg
        refine got_Es re sr gg fun ι1 H1 ds vs S1 st re1 sr1 r g1 => ?_
        rw [List.append_nil]
        exact got_call sr1 r hlen g1
    · cases h
  | .callk g es ks perm, c, X, ex, f, h => by
    unfold ckE at h
    split at h
    · rename_i x p fs kws pos
      simp only [Bool.and_eq_true, decide_eq_true_eq] at h
      obtain ⟨⟨⟨⟨⟨h0, rfl⟩, h2⟩, h3⟩, h4⟩, h5⟩ := h
      obtain ⟨gl, gd⟩ := gl_in f h2
      obtain ⟨fa, fd, ps, k, hm, hk, ok, room, bi, kb, hlen⟩ := f.fns g h0
      split at h3
      · rename_i ns hns
        have hin : (fs.length, ns, perm) ∈ ((c.kw.filter fun q => q.1 == g).map (·.2)) := List.mem_map.mpr ⟨_, List.mem_filter.mpr ⟨of_decide_eq_true h3, by simp⟩, rfl⟩
        have kb' := kb _ hin
        have lenk : ∀ {ι : List Addr} {H : Hp} {S S' : Store} {env : Env} {zs : List D} {ws : List V}, evEs F ks env S = .ok zs S' → Reps X.K ι H zs ws → ws.length = ns.length := fun {ι H S S' env zs ws} e r => by
          rw [← r.len, evEs_len e, ckKs_len h5, kw_len hns]
        cases fs with
        | nil =>
          refine PE.imp (pe_kw0 ok room gl gd hm hk kb' (sn_Ks F ks c X kws f h5) hns) fun σ H Q q => ?_
          obtain ⟨ι, env, S, re, sr, gg⟩ := q
          unfold evE at gg
          cases es with
          | cons _ _ => simp [ckEs] at h4
          | nil =>
            rw [show evEs F .nil env S = .ok [] S from by rw [evEs], bnd_ok] at gg
            obtain ⟨zs, S1, e1, g1⟩ := got_bnd gg
            refine ⟨ι, env, S, re, sr, zs, S1, e1, fun ι1 H1 ws st sr1 r => ?_⟩
            have hw := lenk e1 r
            exact ⟨hw, got_call sr1 (reps_perm r perm fun i hi => by rw [hw]; have := kb'.lt i hi; simpa using this) hlen (got_step st g1)⟩
        | cons e0 fs =>
          have hst : noStar e0 = true := by
            cases es with
            | nil => simp [ckEs] at h4
            | cons e1 es1 =>
              unfold ckEs at h4
              rw [Bool.and_eq_true] at h4
              exact ck_star h4.1
          refine PE.imp (pe_kw ok room gl gd hm hk kb' (sn_Es F es c X _ f h4) (sn_Ks F ks c X kws f h5) hns hst (back_plain h4)) fun σ H Q q => ?_
          obtain ⟨ι, env, S, re, sr, gg⟩ := q
          unfold evE at gg
          obtain ⟨ds, S1, e1, g1⟩ := got_bnd gg
          refine ⟨ι, env, S, re, sr, ds, S1, e1, fun ι1 H1 vs st sr1 r => ?_⟩
          obtain ⟨zs, S2, e2, g2⟩ := got_bnd (got_step st g1)
          refine ⟨ι1, env, S1, re.step st, sr1, zs, S2, e2, fun ι2 H2 ws st2 sr2 r2 => ?_⟩
          have hw := lenk e2 r2
          have hv : vs.length = (e0 :: fs).length := by rw [← r.len, evEs_len e1, ckEs_len h4]
          exact ⟨hv, hw, got_call sr2 (reps_perm ((Reps.step st2 _ _ r).append r2) perm fun i hi => by rw [List.length_append, hw, hv]; exact kb'.lt i hi) hlen (got_step st2 g2)⟩
      · cases h3
    · cases h
  | .prim p es, c, X, ex, f, h => by
    unfold ckE at h
    split at h
    · rename_i x px e0 fs pos
      simp only [Bool.and_eq_true, decide_eq_true_eq] at h
      obtain ⟨⟨rfl, h2⟩, h3⟩ := h
      obtain ⟨gl, hm, hn, gd⟩ := bl_of f h2
      have hst : noStar e0 = true := by
        cases es with
        | nil => simp [ckEs] at h3
        | cons e1 es1 =>
          unfold ckEs at h3
          rw [Bool.and_eq_true] at h3
          exact ck_star h3.1
      have hpl := back_plain (pos := pos) (env := X.env) h3
      rw [star_each hst] at hpl
      have hpl2 : (backTo pos (starEach fs X.env)).any (·.1) = false := by
        unfold backTo at hpl ⊢
        rw [List.map_cons, List.any_cons, Bool.or_eq_false_iff] at hpl
        exact hpl.2
      have pa := sn_Es F es c X _ f h3
      have rd : ∀ (p : Pr) σ H Q, RdE X.K F (.prim p es) σ H Q → RdEs X.K F es σ H fun vs H1 => PrS X.K p vs H1 Q := fun p σ H Q q => by
        obtain ⟨ι, env, S, re, sr, gg⟩ := q
        unfold evE at gg
        exact got_Es re sr gg fun ι1 H1 ds vs S1 st re1 sr1 r g1 => ⟨ι1, S1, ds, sr1, r, g1⟩
      have bt := boot_pr p
      cases p with
      | abs => exact PE.imp (pe_callB pr_abs gl hm bt pa hn gd (star_each hst) hpl2) (rd _)
      | int => exact PE.imp (pe_callTy pr_int gl hm bt pa hn gd (star_each hst) hpl2) (rd _)
      | len => exact PE.imp (pe_callB pr_len gl hm bt pa hn gd (star_each hst) hpl2) (rd _)
      | max => exact PE.imp (pe_callB (pr_max f.calm) gl hm bt pa hn gd (star_each hst) hpl2) (rd _)
      | min => exact PE.imp (pe_callB (pr_min f.calm) gl hm bt pa hn gd (star_each hst) hpl2) (rd _)
      | tuple => exact PE.imp (pe_callTy pr_tuple gl hm bt pa hn gd (star_each hst) hpl2) (rd _)
      | list => exact PE.imp (pe_callTy pr_list gl hm bt pa hn gd (star_each hst) hpl2) (rd _)
      | any => exact PE.imp (pe_callB (pr_any f.calm) gl hm bt pa hn gd (star_each hst) hpl2) (rd _)
      | sorted => exact PE.imp (pe_callB pr_sorted gl hm bt pa hn gd (star_each hst) hpl2) (rd _)
      | sum => exact PE.imp (pe_callB (pr_sum f.calm) gl hm bt pa hn gd (star_each hst) hpl2) (rd _)
    · cases h
  | .isin t a, c, X, ex, f, h => by
    unfold ckE at h
    split at h
    · rename_i x px e0 y py pos
      simp only [Bool.and_eq_true, decide_eq_true_eq] at h
      obtain ⟨⟨⟨⟨rfl, h2⟩, rfl⟩, h4⟩, h5⟩ := h
      obtain ⟨gl, hm, hn, gd⟩ := bl_of f h2
      obtain ⟨gl2, hm2, hn2, gd2⟩ := bl_of f h4
      have hst := ck_star h5
      refine PE.imp (pe_callB call_isi gl hm boot_isi (pa_cons (sn_E F a c X e0 f h5) (pa_cons (pe_bltn (v := .ty (tyN t)) gl2 hm2 (boot_ty t) rfl hn2 gd2) pa_nil) (star_each hst)) hn gd (star_each hst) rfl) fun σ H Q q => ?_
      obtain ⟨ι, env, S, re, sr, gg⟩ := q
      unfold evE at gg
      refine got_E re sr gg fun ι1 H1 d v S1 st re1 sr1 r g1 => ?_
      unfold ofB at g1
      split at g1
      · rename_i b eb
        exact ⟨v, _, _, _, b, rfl, .ty _, ty_of sr1 r, kit_ty (kit_is eb), got_val g1 sr1 (to_bl _)⟩
      · exact (got_bad g1).elim
    · cases h
  | .meth m o es, c, X, ex, f, h => by
    unfold ckE at h
    split at h
    · rename_i e0 n p fs pos
      simp only [Bool.and_eq_true, decide_eq_true_eq] at h
      obtain ⟨⟨⟨⟨⟨rfl, h2⟩, h3⟩, h4⟩, h5⟩, h6⟩ := h
      have rv : ∀ {d : D} {S : Store} {ι : List Addr} {H : Hp} {v : V}, SR X.K ι S H → Rep X.K ι H d v → recvOk m d S = true → tyV X.K "list" v H := fun {d S ι H v} sr r e => by
        unfold recvOk at e
        split at e
        · split at e
          · rename_i el
            obtain ⟨a, xs, rfl, _, q, _⟩ := rep_loc_lst sr r el
            exact .inl ⟨rfl, xs, SqL.of q⟩
          · cases e
        · cases e
      have base := base_of h4 (mtN m) X.env
      cases fs with
      | nil =>
        have rd : ∀ σ H Q, RdE X.K F (.meth m o es) σ H Q → RdE X.K F o σ H fun x H1 => tyV X.K "list" x H1 ∧ MtS X.K m x [] H1 Q := fun σ H Q q => by
          obtain ⟨ι, env, S, re, sr, gg⟩ := q
          unfold evE at gg
          refine got_E re sr gg fun ι1 H1 d v S1 st re1 sr1 r g1 => ?_
          rcases got_ite g1 with ⟨hr, g1⟩ | ⟨_, g1⟩
          · cases es with
            | cons _ _ => simp [ckEs] at h3
            | nil =>
              rw [show evEs F .nil env S1 = .ok [] S1 from by rw [evEs], bnd_ok] at g1
              exact ⟨rv sr1 r hr, ι1, S1, d, [], sr1, r, .nil, g1⟩
          · exact (got_bad g1).elim
        cases m with
        | append => exact PE.imp (pe_bm0 PySem.F.plainAttrs_list PySem.F.slot_list_append PySem.F.type_list_append mt_app (sn_E F o c X e0 f h2) base h5) rd
        | pop => exact PE.imp (pe_bm0 PySem.F.plainAttrs_list PySem.F.slot_list_pop PySem.F.type_list_pop mt_popS (sn_E F o c X e0 f h2) base h5) rd
        | reverse => exact PE.imp (pe_bm0 PySem.F.plainAttrs_list PySem.F.slot_list_reverse PySem.F.type_list_reverse mt_rev (sn_E F o c X e0 f h2) base h5) rd
      | cons e1 fs =>
        have hst : noStar e1 = true := by
          cases es with
          | nil => simp [ckEs] at h3
          | cons e2 es1 =>
            unfold ckEs at h3
            rw [Bool.and_eq_true] at h3
            exact ck_star h3.1
        have hpl := back_plain (pos := pos) (env := X.env) h3
        have hfew : ((backTo pos (starEach (e1 :: fs) X.env)).all (fun x => !x.1) && (backToKw pos (keywordEach [] X.env)).all (fun x => x.1.isSome)
            && decide ((e1 :: fs).length + ([] : List Keyword).length + (if ([] : List Keyword).isEmpty then 0 else 1) < 30)) = true := by
          have a1 : (backTo pos (starEach (e1 :: fs) X.env)).all (fun x => !x.1) = true := by
            rw [List.all_eq_true]
            intro x hx
            have := List.any_eq_false.mp hpl x hx
            simpa using this
          rw [a1]
          have a2 : (e1 :: fs).length + ([] : List Keyword).length + (if ([] : List Keyword).isEmpty then 0 else 1) < 30 := by
            show (e1 :: fs).length + 0 + 0 < 30
            omega
          rw [decide_eq_true a2]
          rfl
        rw [star_each hst] at hpl
        have hpl2 : (backTo pos (starEach fs X.env)).any (·.1) = false := by
          unfold backTo at hpl ⊢
          rw [List.map_cons, List.any_cons, Bool.or_eq_false_iff] at hpl
          exact hpl.2
        have pa := sn_Es F es c X _ f h3
        have rd : ∀ σ H Q, RdE X.K F (.meth m o es) σ H Q → RdE X.K F o σ H fun x H1 => tyV X.K "list" x H1 ∧ RdEs X.K F es σ H1 fun xs H2 => MtS X.K m x xs H2 Q := fun σ H Q q => by
          obtain ⟨ι, env, S, re, sr, gg⟩ := q
          unfold evE at gg
          refine got_E re sr gg fun ι1 H1 d v S1 st re1 sr1 r g1 => ?_
          rcases got_ite g1 with ⟨hr, g1⟩ | ⟨_, g1⟩
          · refine ⟨rv sr1 r hr, got_Es re1 sr1 g1 fun ι2 H2 ds vs S2 st2 re2 sr2 r2 g2 => ?_⟩
            exact ⟨ι2, S2, d, ds, sr2, Rep.step st2 _ _ r, r2, g2⟩
          · exact (got_bad g1).elim
        cases m with
        | append => exact PE.imp (pe_bm PySem.F.plainAttrs_list PySem.F.slot_list_append PySem.F.type_list_append mt_app (sn_E F o c X e0 f h2) pa base hfew h5 (star_each hst) hpl2) rd
        | pop => exact PE.imp (pe_bm PySem.F.plainAttrs_list PySem.F.slot_list_pop PySem.F.type_list_pop mt_popS (sn_E F o c X e0 f h2) pa base hfew h5 (star_each hst) hpl2) rd
        | reverse => exact PE.imp (pe_bm PySem.F.plainAttrs_list PySem.F.slot_list_reverse PySem.F.type_list_reverse mt_rev (sn_E F o c X e0 f h2) pa base hfew h5 (star_each hst) hpl2) rd
    · cases h
  | .gcon y k, c, X, ex, f, h => by
    unfold ckE at h
    split at h
    · simp only [Bool.and_eq_true, decide_eq_true_eq] at h
      obtain ⟨⟨rfl, h2⟩, h3⟩ := h
      obtain ⟨gl, gd⟩ := gl_in f h2
      obtain ⟨v, u, hm, rv, hr⟩ := (f.co _ _ h3).ex
      refine PE.imp (pe_glob gl hm rv gd) fun σ H Q q => ?_
      obtain ⟨ι, env, S, re, sr, g⟩ := q
      unfold evE at g
      exact got_val g sr (hr _ _)
    · cases h
  | .chain op op' a b d, c, X, ex, f, h => by
    unfold ckE at h
    split at h
    · simp only [Bool.and_eq_true, decide_eq_true_eq] at h
      obtain ⟨⟨⟨⟨rfl, rfl⟩, h1⟩, h2⟩, h3⟩ := h
      exact PE.imp (pe_chain (op_cmp f.un op) (op_cmp f.un op') (sn_E F a c X _ f h1) (sn_E F b c X _ f h2) (sn_E F d c X _ f h3) (ck_marks h3 _)) fun σ H Q q => chain_read q
    · cases h
  | .tupG elt t it cs own, c, X, ex, f, h => by
    unfold ckE at h
    split at h
    · rename_i x px el tg iter ifs as scope gp pos
      simp only [Bool.and_eq_true, decide_eq_true_eq] at h
      obtain ⟨⟨⟨⟨⟨⟨⟨⟨⟨⟨⟨⟨rfl, hb⟩, rfl⟩, hg⟩, hl⟩, h1⟩, h2⟩, h3⟩, h4⟩, h5⟩, h6⟩, h7⟩, h8⟩ := h
      obtain ⟨gl, hm, hn, gd⟩ := bl_of f hb
      obtain ⟨cA, P, hcd, TB, hP⟩ := f.gx hg
      obtain ⟨k, hr, fg⟩ := f.gen hg
      have ok : GX.GenOk X.N X.env.scope scope (ownP c.N own) := by rw [f.N, f.sc]; exact genOk_by h2
      have parts : GX.Parts X k tg el ifs scope (TgS X.K t) (RdB X.K fun e s => evTs F cs e s) (RdE X.K F elt) :=
        ⟨fun s H C cl code bi A fp hr => gen_tgt (c := c) (own := own) (fg s H scope C cl code bi A fp hr) h3 h4 h5, fun s H C cl code bi A fp hr => sn_Ts F cs _ _ ifs (fg s H scope C cl code bi A fp hr) h6 h7,
          fun s H C cl code bi A fp hr => sn_E F elt _ _ el (fg s H scope C cl code bi A fp hr) h8⟩
      have := GX.pe_tupG (p := px) (pos := pos) (gpos := gp) hr gl hm (by decide +kernel) TB hcd ok (by rw [f.N]; exact f.nd) f.calm (sn_It F it c X tg iter f h1) parts (ckIt_gen h1 hl X.env) hn gd
      rw [own_map] at this
      exact PE.imp this fun σ H Q q => tup_read hP (slots_own h3) q
    · cases h
  | .qual true elt t it cs own, c, X, ex, f, h => by
    unfold ckE at h
    split at h
    · rename_i x px el tg iter ifs as scope gp pos
      simp only [Bool.and_eq_true, decide_eq_true_eq] at h
      obtain ⟨⟨⟨⟨⟨⟨⟨⟨⟨⟨⟨⟨rfl, hb⟩, rfl⟩, hg⟩, hl⟩, h1⟩, h2⟩, h3⟩, h4⟩, h5⟩, h6⟩, h7⟩, h8⟩ := h
      obtain ⟨gl, hm, hn, gd⟩ := bl_of f hb
      obtain ⟨cA, P, hcd, TB, hP⟩ := f.gx hg
      obtain ⟨k, hr, fg⟩ := f.gen hg
      have ok : GX.GenOk X.N X.env.scope scope (ownP c.N own) := by rw [f.N, f.sc]; exact genOk_by h2
      have parts : GX.Parts X k tg el ifs scope (TgS X.K t) (RdB X.K fun e s => evTs F cs e s) (RdE X.K F elt) :=
        ⟨fun s H C cl code bi A fp hr => gen_tgt (c := c) (own := own) (fg s H scope C cl code bi A fp hr) h3 h4 h5, fun s H C cl code bi A fp hr => sn_Ts F cs _ _ ifs (fg s H scope C cl code bi A fp hr) h6 h7,
          fun s H C cl code bi A fp hr => sn_E F elt _ _ el (fg s H scope C cl code bi A fp hr) h8⟩
      have := GX.pe_allG (p := px) (pos := pos) (gpos := gp) (k := k) (hr.mono (by omega)) gl hm (by decide +kernel) TB hcd ok (by rw [f.N]; exact f.nd) f.calm (sn_It F it c X tg iter f h1) parts (ckIt_gen h1 hl X.env)
      rw [own_map] at this
      exact PE.imp this fun σ H Q q => all_read hP (slots_own h3) q
    · cases h
  | .qual false elt t it cs own, c, X, ex, f, h => by
    unfold ckE at h
    split at h
    · rename_i x px el tg iter ifs as scope gp pos
      simp only [Bool.and_eq_true, decide_eq_true_eq] at h
      obtain ⟨⟨⟨⟨⟨⟨⟨⟨⟨⟨⟨⟨rfl, hb⟩, rfl⟩, hg⟩, hl⟩, h1⟩, h2⟩, h3⟩, h4⟩, h5⟩, h6⟩, h7⟩, h8⟩ := h
      obtain ⟨gl, hm, hn, gd⟩ := bl_of f hb
      obtain ⟨cA, P, hcd, TB, hP⟩ := f.gx hg
      obtain ⟨k, hr, fg⟩ := f.gen hg
      have ok : GX.GenOk X.N X.env.scope scope (ownP c.N own) := by rw [f.N, f.sc]; exact genOk_by h2
      have parts : GX.Parts X k tg el ifs scope (TgS X.K t) (RdB X.K fun e s => evTs F cs e s) (RdE X.K F elt) :=
        ⟨fun s H C cl code bi A fp hr => gen_tgt (c := c) (own := own) (fg s H scope C cl code bi A fp hr) h3 h4 h5, fun s H C cl code bi A fp hr => sn_Ts F cs _ _ ifs (fg s H scope C cl code bi A fp hr) h6 h7,
          fun s H C cl code bi A fp hr => sn_E F elt _ _ el (fg s H scope C cl code bi A fp hr) h8⟩
      have := GX.pe_anyG (p := px) (pos := pos) (gpos := gp) (k := k) (hr.mono (by omega)) gl hm TB hcd ok (by rw [f.N]; exact f.nd) f.calm (sn_It F it c X tg iter f h1) parts (ckIt_gen h1 hl X.env)
      rw [own_map] at this
      exact PE.imp this fun σ H Q q => any_read hP (slots_own h3) q
    · cases h
  | .sumG elt t it cs own, c, X, ex, f, h => by
    unfold ckE at h
    split at h
    · rename_i x px el tg iter ifs as scope gp pos
      simp only [Bool.and_eq_true, decide_eq_true_eq] at h
      obtain ⟨⟨⟨⟨⟨⟨⟨⟨⟨⟨⟨⟨rfl, hb⟩, rfl⟩, hg⟩, hl⟩, h1⟩, h2⟩, h3⟩, h4⟩, h5⟩, h6⟩, h7⟩, h8⟩ := h
      obtain ⟨gl, hm, hn, gd⟩ := bl_of f hb
      obtain ⟨cA, P, hcd, TB, hP⟩ := f.gx hg
      obtain ⟨k, hr, fg⟩ := f.gen hg
      have ok : GX.GenOk X.N X.env.scope scope (ownP c.N own) := by rw [f.N, f.sc]; exact genOk_by h2
      have parts : GX.Parts X k tg el ifs scope (TgS X.K t) (RdB X.K fun e s => evTs F cs e s) (RdE X.K F elt) :=
        ⟨fun s H C cl code bi A fp hr => gen_tgt (c := c) (own := own) (fg s H scope C cl code bi A fp hr) h3 h4 h5, fun s H C cl code bi A fp hr => sn_Ts F cs _ _ ifs (fg s H scope C cl code bi A fp hr) h6 h7,
          fun s H C cl code bi A fp hr => sn_E F elt _ _ el (fg s H scope C cl code bi A fp hr) h8⟩
      have := GX.pe_sumG (p := px) (pos := pos) (gpos := gp) (k := k) (hr.mono (by omega)) gl hm (by decide +kernel) TB hcd ok (by rw [f.N]; exact f.nd) f.calm (sn_It F it c X tg iter f h1) parts (ckIt_gen h1 hl X.env)
      rw [own_map] at this
      exact PE.imp this fun σ H Q q => sum_read hP (slots_own h3) q
    · cases h
  | .lc2 elt t it cs own t1 it1 cs1 own1, c, X, ex, f, h => by
    unfold ckE at h
    split at h
    · rename_i el tg iter ifs as tg1 iter1 ifs1 as1 scope pos
      simp only [Bool.and_eq_true, decide_eq_true_eq] at h
      obtain ⟨⟨⟨⟨⟨⟨⟨⟨⟨⟨⟨⟨⟨⟨⟨rfl, rfl⟩, g1⟩, g2⟩, g3⟩, g4⟩, k1⟩, k2⟩, g5⟩, g6⟩, g7⟩, k3⟩, k4⟩, k5⟩, k6⟩, g8⟩ := h
      obtain ⟨ok, hg, hsl⟩ := lc_ok t own c X tg scope f g2 g3 g4 g5
      have kk : (slotsT t1).all (fun i => own.contains i) = true := List.all_eq_true.mpr fun i hi => List.all_eq_true.mp k2 i (slots_own k1 i hi)
      obtain ⟨_, hg1, _⟩ := lc_ok t1 own c X tg1 scope f g2 kk g4 k4
      have he : ∀ (s : Shared) (H : Hp) (C : Addr) (cl : List (Str × Addr)) (fp : List Addr), PE (X.blk s H scope (compEnvC scope cl C X.env) fp) el (RdE X.K F elt) := fun s H C cl fp => sn_E F elt _ _ el (f.blk s H scope C cl fp) g8
      have ht : ∀ (s : Shared) (H : Hp) (C : Addr) (cl : List (Str × Addr)) (fp : List Addr), PTs (X.blk s H scope (compEnvC scope cl C X.env) fp) ifs (RdB X.K fun e s => evTs F cs e s) := fun s H C cl fp => sn_Ts F cs _ _ ifs (f.blk s H scope C cl fp) g6 g7
      have ht1 : ∀ (s : Shared) (H : Hp) (C : Addr) (cl : List (Str × Addr)) (fp : List Addr), PTs (X.blk s H scope (compEnvC scope cl C X.env) fp) ifs1 (RdB X.K fun e s => evTs F cs1 e s) := fun s H C cl fp => sn_Ts F cs1 _ _ ifs1 (f.blk s H scope C cl fp) k5 k6
      have hi1 : ∀ (s : Shared) (H : Hp) (C : Addr) (cl : List (Str × Addr)) (fp : List Addr), PI (X.blk s H scope (compEnvC scope cl C X.env) fp) tg1 iter1 (RdI X.K F it1) := fun s H C cl fp => sn_It F it1 _ _ tg1 iter1 (f.blk s H scope C cl fp) k3
      have := pe_lc2 (X := X) (elt := el) (pos := pos) (vs1 := own1) f.calm (by rw [f.N]; exact f.nd) (sn_It F it c X tg iter f g1) ok (by rw [own_map]; exact fun i hi => by simpa using List.all_eq_true.mp k2 i hi) hg
        ht hi1 hg1 ht1
        he (ckIt_fold g1 X.env) (fun env => ckIt_fold k3 env)
      rw [own_map] at this
      exact PE.imp this fun σ H Q q => lc2_read hsl (slots_own k1) q
    · cases h
  | .lc elt t it cs own, c, X, ex, f, h => by
    unfold ckE at h
    split at h
    · rename_i el tg iter ifs as scope pos
      simp only [Bool.and_eq_true, decide_eq_true_eq] at h
      obtain ⟨⟨⟨⟨⟨⟨⟨⟨rfl, h1⟩, h2⟩, h3⟩, h4⟩, h5⟩, h6⟩, h7⟩, h8⟩ := h
      obtain ⟨ok, hg, hsl⟩ := lc_ok t own c X tg scope f h2 h3 h4 h5
      have hi : PI X tg iter (RdI X.K F it) := sn_It F it c X tg iter f h1
      have ht : ∀ (s : Shared) (H : Hp) (C : Addr) (cl : List (Str × Addr)) (fp : List Addr), PTs (X.blk s H scope (compEnvC scope cl C X.env) fp) ifs (RdB X.K fun e s => evTs F cs e s) := fun s H C cl fp => sn_Ts F cs _ _ ifs (f.blk s H scope C cl fp) h6 h7
      have he : ∀ (s : Shared) (H : Hp) (C : Addr) (cl : List (Str × Addr)) (fp : List Addr), PE (X.blk s H scope (compEnvC scope cl C X.env) fp) el (RdE X.K F elt) := fun s H C cl fp => sn_E F elt _ _ el (f.blk s H scope C cl fp) h8
      have hown : (ownP c.N own).map (·.2) = own := by unfold ownP; rw [List.map_map]; exact List.map_id' own
      have := pe_lc (pos := pos) f.calm (by rw [f.N]; exact f.nd) hi ok hg ht he (ckIt_fold h1 X.env)
      rw [hown] at this
      exact PE.imp this fun σ H Q q => lc_read hsl q
    · cases h
theorem sn_Es (F : Fns) : ∀ (es : Es) (c : Cn) (X : Cx) (xs : List Expr), Fits c F X → ckEs c es xs = true → PA X xs (RdEs X.K F es)
  | .nil, c, X, [], f, h => by
    refine PA.imp pa_nil fun σ H Q q => ?_
    obtain ⟨ι, env, S, re, sr, g⟩ := q
    unfold evEs at g
    exact got_ok g ι H [] Step.refl sr Reps.nil
  | .nil, c, X, _ :: _, f, h => by simp [ckEs] at h
  | .cons _ _, c, X, [], f, h => by simp [ckEs] at h
  | .cons e es, c, X, x :: xs, f, h => by
    unfold ckEs at h
    rw [Bool.and_eq_true] at h
    refine PA.imp (pa_cons (sn_E F e c X x f h.1) (sn_Es F es c X xs f h.2) (star_each (ck_star h.1))) fun σ H Q q => ?_
    obtain ⟨ι, env, S, re, sr, g⟩ := q
    unfold evEs at g
    refine got_E re sr g fun ι1 H1 d v S1 st re1 sr1 r g1 => ?_
    refine got_Es re1 sr1 g1 fun ι2 H2 d2 v2 S2 st2 re2 sr2 r2 g2 => ?_
    exact got_ok g2 ι2 H2 _ Step.refl sr2 (.cons (Rep.step st2 _ _ r) r2)
theorem sn_Ks (F : Fns) : ∀ (es : Es) (c : Cn) (X : Cx) (xs : List Keyword), Fits c F X → ckKs c es xs = true → PK X xs (RdEs X.K F es)
  | .nil, c, X, [], f, h => by
    refine PK.imp pk_nil fun σ H Q q => ?_
    obtain ⟨ι, env, S, re, sr, g⟩ := q
    unfold evEs at g
    exact got_ok g ι H [] Step.refl sr Reps.nil
  | .nil, c, X, _ :: _, f, h => by simp [ckKs] at h
  | .cons _ _, c, X, [], f, h => by simp [ckKs] at h
  | .cons e es, c, X, ⟨none, x, p⟩ :: xs, f, h => by simp [ckKs] at h
  | .cons e es, c, X, ⟨some n, x, p⟩ :: xs, f, h => by
    unfold ckKs at h
    rw [Bool.and_eq_true] at h
    refine PK.imp (pk_cons (sn_E F e c X x f h.1) (sn_Ks F es c X xs f h.2)) fun σ H Q q => ?_
    obtain ⟨ι, env, S, re, sr, g⟩ := q
    unfold evEs at g
    refine got_E re sr g fun ι1 H1 d v S1 st re1 sr1 r g1 => ?_
    refine got_Es re1 sr1 g1 fun ι2 H2 d2 v2 S2 st2 re2 sr2 r2 g2 => ?_
    exact got_ok g2 ι2 H2 _ Step.refl sr2 (.cons (Rep.step st2 _ _ r) r2)
theorem sn_It (F : Fns) : ∀ (it : It) (c : Cn) (X : Cx) (tg ex : Expr), Fits c F X → ckIt c it tg ex = true → PI X tg ex (RdI X.K F it)
  | .seq e, c, X, tg, ex, f, h => by
    unfold ckIt at h
    have pe := sn_E F e c X ex f h
    refine ⟨fun pins s σ H R I q => ?_⟩
    obtain ⟨ι, env, S, w, S1, re, sr, ew, q⟩ := q
    unfold evIt at ew
    obtain ⟨d, S2, e1, e2⟩ := bnd_eq_ok ew
    have rd : ∀ {P : VK}, (∀ ι1 H1 v, Step ι H ι1 H1 → SR X.K ι1 S2 H1 → Rep X.K ι1 H1 d v → P v H1) → RdE X.K F e σ H P := fun {P} hp => ⟨ι, env, S, re, sr, d, S2, e1, hp⟩
    cases d with
    | tup ds =>
      cases e2
      exact (pi_tup (tg := tg) pe).run pins s σ H R I (rd fun ι1 H1 v st sr1 r => by
        obtain ⟨a, xs, rfl, hq, rr⟩ := rep_tup r
        exact ⟨a, rfl, ⟨xs, hq⟩, q ι1 H1 _ st sr1 (walks_tup hq rr)⟩)
    | rls ds =>
      cases e2
      exact (pi_list (tg := tg) pe).run pins s σ H R I (rd fun ι1 H1 v st sr1 r => by
        obtain ⟨a, xs, rfl, hq, rr⟩ := rep_rls r
        exact ⟨a, rfl, ⟨xs, hq.seq⟩, q ι1 H1 _ st sr1 (walks_rls hq rr)⟩)
    | loc l =>
      dsimp only at e2
      split at e2
      · rename_i ds el
        cases e2
        exact (pi_list (tg := tg) pe).run pins s σ H R I (rd fun ι1 H1 v st sr1 r => by
          obtain ⟨a, xs, rfl, ha, hq, rr⟩ := rep_loc_lst sr1 r el
          exact ⟨a, rfl, ⟨xs, SqL.of hq⟩, q ι1 H1 _ st sr1 (walks_lst ha)⟩)
      · cases e2
    | _ => cases e2
  | .range1 e, c, X, tg, ex, f, h => by
    unfold ckIt at h
    split at h
    · simp only [Bool.and_eq_true, decide_eq_true_eq] at h
      obtain ⟨⟨rfl, h2⟩, h3⟩ := h
      obtain ⟨gl, hm, hn, gd⟩ := bl_of f h2
      refine PI.imp (pi_range1 gl hm (pa_cons (sn_E F e c X _ f h3) pa_nil (star_each (ck_star h3))) (star_each (ck_star h3))) fun σ H R q => ?_
      obtain ⟨ι, env, S, w, S1, re, sr, ew, q⟩ := q
      unfold evIt at ew
      obtain ⟨d, S2, e1, e2⟩ := bnd_eq_ok ew
      refine ⟨ι, env, S, re, sr, d, S2, e1, fun ι1 H1 v st sr1 r => ?_⟩
      split at e2
      · rename_i n
        split at e2
        · rename_i hb
          cases e2
          exact ⟨n, by rw [rep_int r], hb.lo, hb.hi, q ι1 H1 _ st sr1 (walks_rng 0 n.toNat)⟩
        · cases e2
      · cases e2
    · cases h
  | .range2 e e', c, X, tg, ex, f, h => by
    unfold ckIt at h
    split at h
    · simp only [Bool.and_eq_true, decide_eq_true_eq] at h
      obtain ⟨⟨⟨rfl, h2⟩, h3⟩, h4⟩ := h
      obtain ⟨gl, hm, hn, gd⟩ := bl_of f h2
      have s1 := ck_star h3
      have s2 := ck_star h4
      refine PI.imp (pi_range2 gl hm (pa_cons (sn_E F e c X _ f h3) (pa_cons (sn_E F e' c X _ f h4) pa_nil (star_each s2)) (star_each s1)) (by rw [star_each s1, star_each s2]; rfl) (by rw [star_each s2]; rfl)) fun σ H R q => ?_
      obtain ⟨ι, env, S, w, S1, re, sr, ew, q⟩ := q
      unfold evIt at ew
      obtain ⟨d, S2, e1, e2⟩ := bnd_eq_ok ew
      refine ⟨ι, env, S, re, sr, d, S2, e1, fun ι1 H1 v st sr1 r => ?_⟩
      obtain ⟨d2, S3, e3, e4⟩ := bnd_eq_ok e2
      refine ⟨ι1, env, S2, re.step st, sr1, d2, S3, e3, fun ι2 H2 v2 st2 sr2 r2 => ?_⟩
      split at e4
      · rename_i i j
        split at e4
        · rename_i hb
          cases e4
          exact ⟨i, j, by rw [rep_int r, rep_int r2], ⟨hb.1.lo, hb.1.hi, hb.2.lo, hb.2.hi⟩, q ι2 H2 _ (st.trans st2) sr2 (walks_rng i (j - i).toNat)⟩
        · cases e4
      · cases e4
    · cases h
  | .enum e, c, X, tg, ex, f, h => by
    unfold ckIt at h
    split at h
    · split at h
      · simp only [Bool.and_eq_true, decide_eq_true_eq] at h
        obtain ⟨⟨rfl, h2⟩, h3⟩ := h
        obtain ⟨gl, hm, hn, gd⟩ := bl_of f h2
        have s1 := ck_star h3
        refine PI.imp (pi_enumT gl hm (pa_cons (sn_E F e c X _ f h3) pa_nil (star_each s1)) (by rw [star_each s1]; rfl)) fun σ H R q => ?_
        obtain ⟨ι, env, S, w, S1, re, sr, ew, q⟩ := q
        unfold evIt at ew
        obtain ⟨d, S2, e1, e2⟩ := bnd_eq_ok ew
        refine ⟨ι, env, S, re, sr, d, S2, e1, fun ι1 H1 v st sr1 r => ?_⟩
        split at e2
        · cases e2
          obtain ⟨a, xs, rfl, hq, rr⟩ := rep_tup r
          exact ⟨a, xs, rfl, hq, q ι1 H1 _ st sr1 (walks_enum hq rr)⟩
        · cases e2
      · cases h
    · cases h
  | .zip e e', c, X, tg, ex, f, h => by
    unfold ckIt at h
    split at h
    · split at h
      · simp only [Bool.and_eq_true, decide_eq_true_eq] at h
        obtain ⟨⟨⟨rfl, h2⟩, h3⟩, h4⟩ := h
        obtain ⟨gl, hm, hn, gd⟩ := bl_of f h2
        have s1 := ck_star h3
        have s2 := ck_star h4
        refine PI.imp (RZ.pi_zipA gl hm (pa_cons (sn_E F e c X _ f h3) (pa_cons (sn_E F e' c X _ f h4) pa_nil (star_each s2)) (star_each s1)) (star_each s1) (by rw [star_each s2]; rfl)) fun σ H R q => ?_
        obtain ⟨ι, env, S, w, S1, re, sr, ew, q⟩ := q
        unfold evIt at ew
        obtain ⟨d, S2, e1, e2⟩ := bnd_eq_ok ew
        refine ⟨ι, env, S, re, sr, d, S2, e1, fun ι1 H1 v st sr1 r => ?_⟩
        obtain ⟨d2, S3, e3, e4⟩ := bnd_eq_ok e2
        refine ⟨ι1, env, S2, re.step st, sr1, d2, S3, e3, fun ι2 H2 v2 st2 sr2 r2 => ?_⟩
        split at e4
        · cases e4
          have r' := Rep.step st2 _ _ r
          obtain ⟨a, xs, rfl, hq, rr⟩ := rep_tup r'
          obtain ⟨b, ys, rfl, hq2, rr2⟩ := rep_tup r2
          exact ⟨a, b, xs, ys, rfl, .inr ⟨hq, hq2, q ι2 H2 _ (st.trans st2) sr2 (walks_zip hq rr hq2 rr2)⟩⟩
        · cases e4
      · cases h
    · cases h
theorem sn_Ts (F : Fns) : ∀ (cs : Es) (c : Cn) (X : Cx) (ifs : List Expr), Fits c F X → ckEs c cs ifs = true → ifs.length ≤ 1 → PTs X ifs (RdB X.K fun e s => evTs F cs e s)
  | .nil, c, X, [], f, h, _ => by
    refine ⟨fun pins s' σ H' Q I q => pts_nil.run pins s' σ H' Q I ?_⟩
    obtain ⟨ι, env, S, re, sr, g⟩ := q
    dsimp only at g
    rw [evTs] at g
    exact got_ok g ι H' true Step.refl sr rfl
  | .nil, c, X, _ :: _, f, h, _ => by simp [ckEs] at h
  | .cons _ _, c, X, [], f, h, _ => by simp [ckEs] at h
  | .cons _ _, c, X, _ :: _ :: _, f, h, h7 => by simp at h7
  | .cons e es, c, X, [x], f, h, _ => by
    rw [ckEs, Bool.and_eq_true] at h
    refine ⟨fun pins s' σ H' Q I q => (pts_one (sn_T F e c X x f h.1 (sn_E F e c X x f h.1))).run pins s' σ H' Q I ?_⟩
    obtain ⟨ι, env, S, re, sr, g⟩ := q
    dsimp only at g
    rw [evTs] at g
    exact ⟨ι, env, S, re, sr, g⟩
theorem sn_and (F : Fns) : ∀ (es : Es) (c : Cn) (X : Cx) (xs : List Expr) (pos : Pos), Fits c F X → ckEs c es xs = true → PE X (.BoolOp .And xs pos) (RdV X.K (evAnd F es))
  | .nil, c, X, xs, pos, f, h => by
    refine PE.imp (t := fun _ _ _ => False) ⟨fun _ _ _ _ _ _ z => z.elim⟩ fun σ H Q q => ?_
    obtain ⟨ι, env, S, re, sr, g⟩ := q
    unfold evAnd at g
    exact got_bad g
  | .cons e es, c, X, [], pos, f, h => by simp [ckEs] at h
  | .cons e .nil, c, X, x :: y :: xs, pos, f, h => by simp [ckEs] at h
  | .cons e (.cons e' es), c, X, [x], pos, f, h => by simp [ckEs] at h
  | .cons e .nil, c, X, [x], pos, f, h => by
    unfold ckEs at h
    rw [Bool.and_eq_true] at h
    refine PE.imp (pe_one (sn_E F e c X x f h.1)) fun σ H Q q => ?_
    obtain ⟨ι, env, S, re, sr, g⟩ := q
    rw [ev_and1] at g
    exact ⟨ι, env, S, re, sr, g⟩
  | .cons e (.cons e' es), c, X, x :: y :: xs, pos, f, h => by
    have h' : ckE c e x = true ∧ ckEs c (.cons e' es) (y :: xs) = true := by
      rw [ckEs, Bool.and_eq_true] at h
      exact h
    refine PE.imp (pe_andT (sn_E F e c X x f h'.1) (sn_and F (.cons e' es) c X (y :: xs) pos f h'.2)) fun σ H Q q => ?_
    obtain ⟨ι, env, S, re, sr, g⟩ := q
    rw [ev_and2] at g
    refine got_E re sr g fun ι1 H1 d v S1 st re1 sr1 r g1 => ?_
    split at g1
    · rename_i et
      exact ⟨true, tru_of sr1 r et, ι1, env, S1, re1, sr1, g1⟩
    · rename_i et
      exact ⟨false, tru_of sr1 r et, got_val g1 sr1 r⟩
    · exact (got_bad g1).elim
theorem sn_or (F : Fns) : ∀ (es : Es) (c : Cn) (X : Cx) (xs : List Expr) (pos : Pos), Fits c F X → ckEs c es xs = true → PE X (.BoolOp .Or xs pos) (RdV X.K (evOr F es))
  | .nil, c, X, xs, pos, f, h => by
    refine PE.imp (t := fun _ _ _ => False) ⟨fun _ _ _ _ _ _ z => z.elim⟩ fun σ H Q q => ?_
    obtain ⟨ι, env, S, re, sr, g⟩ := q
    unfold evOr at g
    exact got_bad g
  | .cons e es, c, X, [], pos, f, h => by simp [ckEs] at h
  | .cons e .nil, c, X, x :: y :: xs, pos, f, h => by simp [ckEs] at h
  | .cons e (.cons e' es), c, X, [x], pos, f, h => by simp [ckEs] at h
  | .cons e .nil, c, X, [x], pos, f, h => by
    unfold ckEs at h
    rw [Bool.and_eq_true] at h
    refine PE.imp (pe_one (sn_E F e c X x f h.1)) fun σ H Q q => ?_
    obtain ⟨ι, env, S, re, sr, g⟩ := q
    rw [ev_or1] at g
    exact ⟨ι, env, S, re, sr, g⟩
  | .cons e (.cons e' es), c, X, x :: y :: xs, pos, f, h => by
    have h' : ckE c e x = true ∧ ckEs c (.cons e' es) (y :: xs) = true := by
      rw [ckEs, Bool.and_eq_true] at h
      exact h
    refine PE.imp (pe_orT (sn_E F e c X x f h'.1) (sn_or F (.cons e' es) c X (y :: xs) pos f h'.2)) fun σ H Q q => ?_
    obtain ⟨ι, env, S, re, sr, g⟩ := q
    rw [ev_or2] at g
    refine got_E re sr g fun ι1 H1 d v S1 st re1 sr1 r g1 => ?_
    split at g1
    · rename_i et
      exact ⟨false, tru_of sr1 r et, ι1, env, S1, re1, sr1, g1⟩
    · rename_i et
      exact ⟨true, tru_of sr1 r et, got_val g1 sr1 r⟩
    · exact (got_bad g1).elim
theorem sn_T (F : Fns) : ∀ (e : E) (c : Cn) (X : Cx) (ex : Expr), Fits c F X → ckE c e ex = true → PE X ex (RdE X.K F e) → PT X ex (RdB X.K fun env S => truR (evE F e env S))
  | .not a, c, X, ex, f, h, _ => by
    unfold ckE at h
    split at h
    · refine PT.imp (pt_not (sn_T F a c X _ f h (sn_E F a c X _ f h))) fun σ H Q q => ?_
      obtain ⟨ι, env, S, re, sr, g⟩ := q
      dsimp only at g
      rw [evE] at g
      obtain ⟨b, S1, e1, g1⟩ := got_not g
      exact ⟨ι, env, S, re, sr, b, S1, e1, fun ι1 H1 b' st sr1 hb => by subst hb; exact got_ok g1 ι1 H1 _ st sr1 rfl⟩
    · cases h
  | .and es, c, X, ex, f, h, _ => by
    unfold ckE at h
    split at h
    · refine PT.imp (sn_Tand F es c X _ _ f h).pt fun σ H Q q => ?_
      obtain ⟨ι, env, S, re, sr, g⟩ := q
      dsimp only at g
      rw [evE] at g
      exact ⟨ι, env, S, re, sr, g⟩
    · cases h
  | .or es, c, X, ex, f, h, _ => by
    unfold ckE at h
    split at h
    · refine PT.imp (sn_Tor F es c X _ _ f h).pt fun σ H Q q => ?_
      obtain ⟨ι, env, S, re, sr, g⟩ := q
      dsimp only at g
      rw [evE] at g
      exact ⟨ι, env, S, re, sr, g⟩
    · cases h
  | .cmp op a b, c, X, ex, f, h, _ => by
    unfold ckE at h
    split at h
    · simp only [Bool.and_eq_true, decide_eq_true_eq] at h
      obtain ⟨⟨rfl, h1⟩, h2⟩ := h
      refine PT.imp (pt_cmpR (op_cmp f.un op) (sn_E F a c X _ f h1) (sn_E F b c X _ f h2) (ck_marks h2 _)) fun σ H Q q => ?_
      obtain ⟨ι, env, S, re, sr, g⟩ := q
      dsimp only at g
      rw [evE] at g
      unfold truR at g
      rw [bnd_assoc] at g
      refine got_E re sr g fun ι1 H1 d v S1 st re1 sr1 r g1 => ?_
      rw [bnd_assoc] at g1
      refine got_E re1 sr1 g1 fun ι2 H2 d2 v2 S2 st2 re2 sr2 r2 g2 => ?_
      refine ⟨ι2, S2, d, d2, sr2, Rep.step st2 _ _ r, r2, ?_⟩
      obtain ⟨z, S3, e3, g3⟩ := got_bnd g2
      refine ⟨z, S3, e3, fun ι3 H3 v3 st3 sr3 r3 => ?_⟩
      unfold ofB at e3
      split at e3
      · cases e3
        exact ⟨_, rep_bl r3, got_ok g3 ι3 H3 _ st3 sr3 rfl⟩
      · cases e3
    · cases h
  | .chain op op' a b d, c, X, ex, f, h, _ => by
    unfold ckE at h
    split at h
    · simp only [Bool.and_eq_true, decide_eq_true_eq] at h
      obtain ⟨⟨⟨⟨rfl, rfl⟩, h1⟩, h2⟩, h3⟩ := h
      refine PT.imp (pt_chain (op_cmp f.un op) (op_cmp f.un op') (sn_E F a c X _ f h1) (sn_E F b c X _ f h2) (sn_E F d c X _ f h3) (ck_marks h3 _)) fun σ H Q q => ?_
      refine chain_read ?_
      obtain ⟨ι, env, S, re, sr, g⟩ := q
      dsimp only at g
      unfold truR at g
      obtain ⟨z, S3, e3, g3⟩ := got_bnd g
      refine ⟨ι, env, S, re, sr, z, S3, e3, fun ι3 H3 v3 st3 sr3 r3 => ?_⟩
      obtain ⟨kb, rfl⟩ : ∃ kb, z = .bl kb := by
        rw [evE] at e3
        obtain ⟨x1, T1, _, e4⟩ := bnd_eq_ok e3
        obtain ⟨x2, T2, _, e5⟩ := bnd_eq_ok e4
        obtain ⟨x3, T3, e6, e7⟩ := bnd_eq_ok e5
        have ofb : ∀ {o : Option Bool} {T T' : Store} {r : D}, ofB o T = .ok r T' → ∃ kb, r = .bl kb := fun {o T T' r} e => by
          unfold ofB at e
          split at e
          · cases e; exact ⟨_, rfl⟩
          · cases e
        obtain ⟨k1, rfl⟩ := ofb e6
        cases k1 with
        | true =>
          obtain ⟨x5, T5, _, e9⟩ := bnd_eq_ok e7
          exact ofb e9
        | false => cases e7; exact ⟨_, rfl⟩
      exact ⟨_, rep_bl r3, got_ok (got_step st3 g3) ι3 H3 _ Step.refl sr3 rfl⟩
    · cases h
  | .ite k a b, c, X, ex, f, h, _ => by
    unfold ckE at h
    split at h
    · simp only [Bool.and_eq_true] at h
      obtain ⟨⟨h0, h1⟩, h2⟩ := h
      refine PT.imp (pt_ite (sn_T F k c X _ f h0 (sn_E F k c X _ f h0)) (sn_T F a c X _ f h1 (sn_E F a c X _ f h1)) (sn_T F b c X _ f h2 (sn_E F b c X _ f h2))) fun σ H Q q => ?_
      obtain ⟨ι, env, S, re, sr, g⟩ := q
      dsimp only at g
      rw [evE] at g
      unfold truR at g
      rw [bnd_assoc] at g
      refine got_B (f := fun env S => truR (evE F k env S)) re sr g fun ι1 H1 d S1 st re1 sr1 g1 => ?_
      cases d with
      | true => exact ⟨ι1, env, S1, re1, sr1, g1⟩
      | false => exact ⟨ι1, env, S1, re1, sr1, g1⟩
    · cases h
  | .var i, c, X, ex, f, h, pe => PT.imp (pt_truth pe (plain_of h (by rfl))) fun _ _ _ => tru_read
  | .cint i, c, X, ex, f, h, pe => PT.imp (pt_truth pe (plain_of h (by rfl))) fun _ _ _ => tru_read
  | .cbl i, c, X, ex, f, h, pe => PT.imp (pt_truth pe (plain_of h (by rfl))) fun _ _ _ => tru_read
  | .cnon, c, X, ex, f, h, pe => PT.imp (pt_truth pe (plain_of h (by rfl))) fun _ _ _ => tru_read
  | .cstr i, c, X, ex, f, h, pe => PT.imp (pt_truth pe (plain_of h (by rfl))) fun _ _ _ => tru_read
  | .tup i, c, X, ex, f, h, pe => PT.imp (pt_truth pe (plain_of h (by rfl))) fun _ _ _ => tru_read
  | .lst i, c, X, ex, f, h, pe => PT.imp (pt_truth pe (plain_of h (by rfl))) fun _ _ _ => tru_read
  | .bin i a b, c, X, ex, f, h, pe => PT.imp (pt_truth pe (plain_of h (by rfl))) fun _ _ _ => tru_read
  | .neg i, c, X, ex, f, h, pe => PT.imp (pt_truth pe (plain_of h (by rfl))) fun _ _ _ => tru_read
  | .idx i a, c, X, ex, f, h, pe => PT.imp (pt_truth pe (plain_of h (by rfl))) fun _ _ _ => tru_read
  | .slc i a b, c, X, ex, f, h, pe => PT.imp (pt_truth pe (plain_of h (by rfl))) fun _ _ _ => tru_read
  | .absent, c, X, ex, f, h, pe => PT.imp (pt_truth pe (plain_of h (by rfl))) fun _ _ _ => tru_read
  | .call i a, c, X, ex, f, h, pe => PT.imp (pt_truth pe (plain_of h (by rfl))) fun _ _ _ => tru_read
  | .callk i a b d, c, X, ex, f, h, pe => PT.imp (pt_truth pe (plain_of h (by rfl))) fun _ _ _ => tru_read
  | .prim i a, c, X, ex, f, h, pe => PT.imp (pt_truth pe (plain_of h (by rfl))) fun _ _ _ => tru_read
  | .isin i a, c, X, ex, f, h, pe => PT.imp (pt_truth pe (plain_of h (by rfl))) fun _ _ _ => tru_read
  | .meth i a b, c, X, ex, f, h, pe => PT.imp (pt_truth pe (plain_of h (by rfl))) fun _ _ _ => tru_read
  | .lc i a b d g, c, X, ex, f, h, pe => PT.imp (pt_truth pe (plain_of h (by rfl))) fun _ _ _ => tru_read
  | .gcon i a, c, X, ex, f, h, pe => PT.imp (pt_truth pe (plain_of h (by rfl))) fun _ _ _ => tru_read
  | .tupG i a b d g, c, X, ex, f, h, pe => PT.imp (pt_truth pe (plain_of h (by rfl))) fun _ _ _ => tru_read
  | .qual _ i a b d g, c, X, ex, f, h, pe => PT.imp (pt_truth pe (plain_of h (by rfl))) fun _ _ _ => tru_read
  | .sumG i a b d g, c, X, ex, f, h, pe => PT.imp (pt_truth pe (plain_of h (by rfl))) fun _ _ _ => tru_read
  | .lc2 i a b d g _ _ _ _, c, X, ex, f, h, pe => PT.imp (pt_truth pe (plain_of h (by rfl))) fun _ _ _ => tru_read
theorem sn_Tand (F : Fns) : ∀ (es : Es) (c : Cn) (X : Cx) (xs : List Expr) (pos : Pos), Fits c F X → ckEs c es xs = true → PW X (.BoolOp .And xs pos) (RdB X.K fun env S => truR (evAnd F es env S))
  | .nil, c, X, xs, pos, f, h => by
    refine PW.imp (t := fun _ _ _ => False) ⟨fun _ _ _ _ _ _ _ z => z.elim⟩ fun σ H Q q => ?_
    obtain ⟨ι, env, S, re, sr, g⟩ := q
    dsimp only at g
    rw [evAnd] at g
    exact got_bad g
  | .cons e es, c, X, [], pos, f, h => by simp [ckEs] at h
  | .cons e .nil, c, X, x :: y :: xs, pos, f, h => by simp [ckEs] at h
  | .cons e (.cons e' es), c, X, [x], pos, f, h => by simp [ckEs] at h
  | .cons e .nil, c, X, [x], pos, f, h => by
    rw [ckEs, Bool.and_eq_true] at h
    refine PW.imp (pw_and1 (sn_T F e c X x f h.1 (sn_E F e c X x f h.1))) fun σ H Q q => ?_
    obtain ⟨ι, env, S, re, sr, g⟩ := q
    dsimp only at g
    rw [ev_and1] at g
    exact ⟨ι, env, S, re, sr, g⟩
  | .cons e (.cons e' es), c, X, x :: y :: xs, pos, f, h => by
    have h' : ckE c e x = true ∧ ckEs c (.cons e' es) (y :: xs) = true := by
      rw [ckEs, Bool.and_eq_true] at h
      exact h
    refine PW.imp (pw_and (sn_T F e c X x f h'.1 (sn_E F e c X x f h'.1)) (sn_Tand F (.cons e' es) c X (y :: xs) pos f h'.2)) fun σ H Q q => ?_
    obtain ⟨ι, env, S, re, sr, g⟩ := q
    dsimp only at g
    rw [ev_and2] at g
    unfold truR at g
    rw [bnd_assoc] at g
    obtain ⟨d, S1, e1, g1⟩ := got_bnd g
    cases hb : truD d S1 with
    | none => rw [hb] at g1; exact (got_bad g1).elim
    | some b =>
      rw [hb] at g1
      refine ⟨ι, env, S, re, sr, b, S1, by unfold truR; dsimp only; rw [e1, bnd_ok, hb], fun ι1 H1 b' st sr1 hbb => ?_⟩
      subst hbb
      cases b with
      | true => exact ⟨ι1, env, S1, re.step st, sr1, got_step st g1⟩
      | false =>
        dsimp only at g1
        rw [bnd_ok, hb] at g1
        exact got_ok g1 ι1 H1 false st sr1 rfl
theorem sn_Tor (F : Fns) : ∀ (es : Es) (c : Cn) (X : Cx) (xs : List Expr) (pos : Pos), Fits c F X → ckEs c es xs = true → PW X (.BoolOp .Or xs pos) (RdB X.K fun env S => truR (evOr F es env S))
  | .nil, c, X, xs, pos, f, h => by
    refine PW.imp (t := fun _ _ _ => False) ⟨fun _ _ _ _ _ _ _ z => z.elim⟩ fun σ H Q q => ?_
    obtain ⟨ι, env, S, re, sr, g⟩ := q
    dsimp only at g
    rw [evOr] at g
    exact got_bad g
  | .cons e es, c, X, [], pos, f, h => by simp [ckEs] at h
  | .cons e .nil, c, X, x :: y :: xs, pos, f, h => by simp [ckEs] at h
  | .cons e (.cons e' es), c, X, [x], pos, f, h => by simp [ckEs] at h
  | .cons e .nil, c, X, [x], pos, f, h => by
    rw [ckEs, Bool.and_eq_true] at h
    refine PW.imp (pw_or1 (sn_T F e c X x f h.1 (sn_E F e c X x f h.1))) fun σ H Q q => ?_
    obtain ⟨ι, env, S, re, sr, g⟩ := q
    dsimp only at g
    rw [ev_or1] at g
    exact ⟨ι, env, S, re, sr, g⟩
  | .cons e (.cons e' es), c, X, x :: y :: xs, pos, f, h => by
    have h' : ckE c e x = true ∧ ckEs c (.cons e' es) (y :: xs) = true := by
      rw [ckEs, Bool.and_eq_true] at h
      exact h
    refine PW.imp (pw_or (sn_T F e c X x f h'.1 (sn_E F e c X x f h'.1)) (sn_Tor F (.cons e' es) c X (y :: xs) pos f h'.2)) fun σ H Q q => ?_
    obtain ⟨ι, env, S, re, sr, g⟩ := q
    dsimp only at g
    rw [ev_or2] at g
    unfold truR at g
    rw [bnd_assoc] at g
    obtain ⟨d, S1, e1, g1⟩ := got_bnd g
    cases hb : truD d S1 with
    | none => rw [hb] at g1; exact (got_bad g1).elim
    | some b =>
      rw [hb] at g1
      refine ⟨ι, env, S, re, sr, b, S1, by unfold truR; dsimp only; rw [e1, bnd_ok, hb], fun ι1 H1 b' st sr1 hbb => ?_⟩
      subst hbb
      cases b with
      | false => exact ⟨ι1, env, S1, re.step st, sr1, got_step st g1⟩
      | true =>
        dsimp only at g1
        rw [bnd_ok, hb] at g1
        exact got_ok g1 ι1 H1 true st sr1 rfl
end
end
end SX
namespace SX
open PySem PySem.Spec PyProof.Rows L2

/-! ### the checker of statements -/
/-- how a, b = x, y is stored -/
def swp (sc : Scope) (ts vs : List Expr) : Option (Option (List Str)) :=
  if (!(ts.length == 2 || ts.length == 3) || vs.length != ts.length) = true then some none
  else if (vs.any fun | .Starred .. => true | _ => false) = true then some none
  else
    let line := (ts.head?.map (·.pos.line)).getD 0
    let names := ts.filterMap fun
      | .Name id pos => if (sc.names.lookup id == some .local && pos.line == line) = true then some id else none
      | _ => none
    if (names.length != ts.length || names.eraseDups.length != names.length) = true then some none
    else if vs.all (foldedForSure 8) = true then some none
    else if vs.all (constantsAlone 8) = true then none
    else some (some names)
theorem swp_ok {env : PySem.Env} {ts vs : List Expr} {k k2 : Nat} {p p2 : Pos} {r : Option (List Str)} (hk : env.scope.kind = .function) (h : swp env.scope ts vs = some r) :
    swappedStores [.Tuple ts k p] (.Tuple vs k2 p2) env = pure r := by
  have hb : env.blockKind = .function := by unfold Env.blockKind; rw [hk]; rfl
  unfold swp at h
  have e0 : swappedStores [.Tuple ts k p] (.Tuple vs k2 p2) env =
      (if (!(ts.length == 2 || ts.length == 3) || vs.length != ts.length || env.blockKind != .function) = true then (pure none : Sem (Option (List Str)))
       else if (vs.any fun | .Starred .. => true | _ => false) = true then pure none
       else
        let line := (ts.head?.map (·.pos.line)).getD 0
        let names := ts.filterMap fun
          | .Name id pos => if (env.kindOf id == some .local && pos.line == line) = true then some id else none
          | _ => none
        if (names.length != ts.length || names.eraseDups.length != names.length) = true then pure none
        else if vs.all (foldedForSure 8) = true then pure none
        else if vs.all (constantsAlone 8) = true then (do unsupported "assign.tuple-of-constant-expressions:order-of-the-stores"; pure (some names))
        else pure (some names)) := rfl
  rw [e0, hb]
  have e1 : (ScopeKind.function != ScopeKind.function) = false := by decide
  rw [e1, Bool.or_false]
  split at h
  · rename_i c1
    cases h
    rw [if_pos c1]
  · rename_i c1
    rw [if_neg c1]
    split at h
    · rename_i c2
      cases h
      rw [if_pos c2]
    · rename_i c2
      rw [if_neg c2]
      dsimp only at h ⊢
      split at h
      · rename_i c3
        cases h
        exact if_pos c3
      · rename_i c3
        refine (if_neg c3).trans ?_
        split at h
        · rename_i c4
          cases h
          rw [if_pos c4]
        · rename_i c4
          rw [if_neg c4]
          split at h
          · cases h
          · rename_i c5
            cases h
            rw [if_neg c5]
            rfl

def notComp : Expr → Bool
  | .ListComp _ _ _ _ => false
  | .SetComp _ _ _ _ => false
  | .DictComp _ _ _ _ _ => false
  | _ => true
def isName : Expr → Bool
  | .Name _ _ => true
  | _ => false
def parN (c : Cn) : List Nat → List Expr → List Str → Bool
  | [], [], [] => true
  | i :: is, .Name x _ :: es, y :: ys => decide (c.N[i]? = some x) && decide (x = y) && decide (c.sc.names.lookup x = some .local) && parN c is es ys
  | _, _, _ => false
mutual
def ckS (c : Cn) : St → Stmt → Bool
  | .asg t e, s => match s with
    | .Assign [tg] v _ => ckT c t tg && ckE c e v && (match tg, v with
        | .Tuple ts _ _, .Tuple vs _ _ => decide (swp c.sc ts vs = some none)
        | .Tuple _ _ _, v => notComp v
        | _, _ => true)
    | _ => false
  | .par is es, s => match s with
    | .Assign [.Tuple ts _ _] (.Tuple vs _ _) _ => (match swp c.sc ts vs with
        | some (some ns) => parN c is ts ns
        | _ => false) && decide is.Nodup && decide (is.length = 2 ∨ is.length = 3) && ckEs c es vs
    | _ => false
  | .setS o i v, s => match s with
    | .Assign [.Subscript o' i' _] v' _ => ckE c o o' && ckE c i i' && ckE c v v'
    | _ => false
  | .aug i op e, s => match s with
    | .AugAssign (.Name x _) o v _ => decide (c.N[i]? = some x) && locB c.sc x && decide (o = boOp op) && decide (op = .add ∨ op = .sub) && ckE c e v
    | _ => false
  | .augS o i op e, s => match s with
    | .AugAssign (.Subscript o' i' _) p v _ => ckE c o o' && ckE c i i' && decide (p = boOp op) && decide (op = .add ∨ op = .sub) && ckE c e v
    | _ => false
  | .expr e, s => match s with
    | .Expr v _ => ckE c e v && notComp v
    | _ => false
  | .ret e, s => match s with
    | .Return (some v) _ => ckE c e v
    | _ => false
  | .retN, s => match s with
    | .Return none _ => true
    | _ => false
  | .ite k a b, s => match s with
    | .If t x y _ => ckE c k t && ckSs c a x && ckSs c b y
    | _ => false
  | .wh k b, s => match s with
    | .While t x [] _ => ckE c k t && ckSs c b x
    | _ => false
  | .fo t it b, s => match s with
    | .For tg iter x [] _ => ckT c t tg && ckIt c it tg iter && ckSs c b x
    | _ => false
  | .brk, s => match s with
    | .Break _ => true
    | _ => false
  | .cont, s => match s with
    | .Continue _ => true
    | _ => false
  | .pass, s => match s with
    | .Pass _ => true
    | _ => false
  | .callx _ _, _ => false
  | .retx _ _ _ _ _ _, _ => false
  | .tryx _, _ => false
def ckSs (c : Cn) : Ss → List Stmt → Bool
  | .nil, [] => true
  | .cons s ss, x :: xs => ckS c s x && ckSs c ss xs
  | _, _ => false
end
end SX
namespace SX
open PySem PySem.Spec PyProof.Rows L2
noncomputable section
open Classical
variable [Tabs]

def GotS (K : PySem.W.Frag) (ι : List Addr) (H : Hp) (r : Res (Flow × Env)) (E : Ends) : Prop :=
  ∃ fl env' S', r = .ok (fl, env') S' ∧ ∀ ι' H' σ', Step ι H ι' H' → SR K ι' S' H' → REnv K ι' H' env' σ' → match fl with
    | .next => E.nx σ' H'
    | .brk => E.bk σ' H'
    | .cont => E.ct σ' H'
    | .ret d => ∀ v, Rep K ι' H' d v → E.rt v H'
def RdS (K : PySem.W.Frag) (f : Env → Store → Res (Flow × Env)) : TS := fun E σ H => ∃ ι env S, REnv K ι H env σ ∧ SR K ι S H ∧ GotS K ι H (f env S) E
section
variable {K : PySem.W.Frag} {ι ι' : List Addr} {H H' : Hp} {α : Type} {Z : Ends} {env : Env} {σ : L2.St} {S : Store} {F : Fns}
theorem gs_step {r : Res (Flow × Env)} (st : Step ι H ι' H') (g : GotS K ι H r Z) : GotS K ι' H' r Z := by
  obtain ⟨fl, e, S', h1, h⟩ := g
  exact ⟨fl, e, S', h1, fun ι2 H2 σ2 s2 => h ι2 H2 σ2 (st.trans s2)⟩
theorem gs_bnd {r : Res α} {k : α → Store → Res (Flow × Env)} (g : GotS K ι H (r.bnd k) Z) : ∃ c S1, r = .ok c S1 ∧ GotS K ι H (k c S1) Z := by
  obtain ⟨fl, e, S', h1, h⟩ := g
  obtain ⟨c, S1, e1, e2⟩ := bnd_eq_ok h1
  exact ⟨c, S1, e1, fl, e, S', e2, h⟩
theorem gs_bad (g : GotS K ι H .bad Z) : False := by
  obtain ⟨_, _, _, e, _⟩ := g
  cases e
theorem gs_nx {env' : Env} (g : GotS K ι H (.ok (.next, env') S) Z) (s : SR K ι S H) (r : REnv K ι H env' σ) : Z.nx σ H := by
  obtain ⟨_, _, _, e, h⟩ := g
  cases e
  exact h ι H σ Step.refl s r
theorem gs_E {e : E} {k : D → Store → Res (Flow × Env)} (re : REnv K ι H env σ) (s : SR K ι S H) (g : GotS K ι H ((evE F e env S).bnd k) Z)
    {P : VK} (h : ∀ ι1 H1 d v S1, Step ι H ι1 H1 → REnv K ι1 H1 env σ → SR K ι1 S1 H1 → Rep K ι1 H1 d v → GotS K ι1 H1 (k d S1) Z → P v H1) : RdE K F e σ H P := by
  obtain ⟨d, S1, e1, g1⟩ := gs_bnd g
  exact ⟨ι, env, S, re, s, d, S1, e1, fun ι1 H1 v st s1 r => h ι1 H1 d v S1 st (re.step st) s1 r (gs_step st g1)⟩
theorem gs_Es {e : Es} {k : List D → Store → Res (Flow × Env)} (re : REnv K ι H env σ) (s : SR K ι S H) (g : GotS K ι H ((evEs F e env S).bnd k) Z)
    {P : List V → Hp → Prop} (h : ∀ ι1 H1 d v S1, Step ι H ι1 H1 → REnv K ι1 H1 env σ → SR K ι1 S1 H1 → Reps K ι1 H1 d v → GotS K ι1 H1 (k d S1) Z → P v H1) : RdEs K F e σ H P := by
  obtain ⟨d, S1, e1, g1⟩ := gs_bnd g
  exact ⟨ι, env, S, re, s, d, S1, e1, fun ι1 H1 v st s1 r => h ι1 H1 d v S1 st (re.step st) s1 r (gs_step st g1)⟩
theorem gs_B {f : Env → Store → Res Bool} {k : Bool → Store → Res (Flow × Env)} (re : REnv K ι H env σ) (s : SR K ι S H) (g : GotS K ι H ((f env S).bnd k) Z)
    {P : Bool → Hp → Prop} (h : ∀ ι1 H1 b S1, Step ι H ι1 H1 → REnv K ι1 H1 env σ → SR K ι1 S1 H1 → GotS K ι1 H1 (k b S1) Z → P b H1) : RdB K f σ H P := by
  obtain ⟨d, S1, e1, g1⟩ := gs_bnd g
  exact ⟨ι, env, S, re, s, d, S1, e1, fun ι1 H1 v st s1 r => by subst r; exact h ι1 H1 d S1 st (re.step st) s1 (gs_step st g1)⟩
end

/-! ### while -/
theorem whL_ex {c : Env → Store → Res Bool} {b : Env → Store → Res (Flow × Env)} {env : Env} {S : Store} {r : Flow × Env} {S' : Store} (h : whL c b env S = .ok r S') : ∃ n, whN c b n env S = .ok r S' := by
  unfold whL at h
  split at h
  · exact ⟨_, h⟩
  · cases h
theorem wh_read {K : PySem.W.Frag} {F : Fns} {c : E} {b : Ss} {D : Ends} {σ : L2.St} {H : Hp} (h : RdS K (exS F (.wh c b)) D σ H) :
    tWhile (RdB K fun e s => truR (evE F c e s)) (RdS K (exSs F b)) D σ H := by
  obtain ⟨ι, env, S, re, sr, g⟩ := h
  rw [exS] at g
  obtain ⟨fl, env', S', e, q⟩ := g
  obtain ⟨n, en⟩ := whL_ex e
  refine ⟨fun m σ H => ∃ ι env S, REnv K ι H env σ ∧ SR K ι S H ∧ GotS K ι H (whN (fun e s => truR (evE F c e s)) (fun e s => exSs F b e s) m env S) D, ⟨n, ι, env, S, re, sr, fl, env', S', en, q⟩, ?_⟩
  rintro m σ1 H1 ⟨ι1, env1, S1, re1, sr1, g1⟩
  cases m with
  | zero => unfold whN at g1; exact (gs_bad g1).elim
  | succ m =>
    unfold whN at g1
    refine gs_B re1 sr1 g1 fun ι2 H2 k S2 st2 re2 sr2 g2 => ?_
    cases k with
    | false =>
      rw [if_neg Bool.false_ne_true] at g2 ⊢
      exact gs_nx g2 sr2 re2
    | true =>
      rw [if_pos rfl] at g2 ⊢
      refine ⟨fun σ' H' => ∃ ι env S, REnv K ι H' env σ' ∧ SR K ι S H' ∧ GotS K ι H' (whN (fun e s => truR (evE F c e s)) (fun e s => exSs F b e s) m env S) D, fun σ' H' hn => ⟨m, Nat.lt_succ_self m, hn⟩, ι2, env1, S2, re2, sr2, ?_⟩
      obtain ⟨⟨fl2, env2⟩, S3, e3, g3⟩ := gs_bnd g2
      refine ⟨fl2, env2, S3, e3, fun ι4 H4 σ4 st4 sr4 re4 => ?_⟩
      have g4 := gs_step st4 g3
      cases fl2 with
      | next => exact ⟨ι4, env2, S3, re4, sr4, g4⟩
      | cont => exact ⟨ι4, env2, S3, re4, sr4, g4⟩
      | brk => exact gs_nx g4 sr4 re4
      | ret d =>
        intro v r
        obtain ⟨_, _, _, e5, q5⟩ := g4
        cases e5
        exact q5 ι4 H4 σ4 Step.refl sr4 re4 v r

/-! ### for -/
theorem fo_read {K : PySem.W.Frag} {F : Fns} {t : Tg} {it : It} {b : Ss} {D : Ends} {σ : L2.St} {H : Hp} (h : RdS K (exS F (.fo t it b)) D σ H) :
    tFor (RdI K F it) (TgS K t) (RdS K (exSs F b)) D σ H := by
  obtain ⟨ι, env, S, re, sr, g⟩ := h
  rw [exS] at g
  obtain ⟨w, S1, ew, g1⟩ := gs_bnd g
  refine ⟨ι, env, S, w, S1, re, sr, ew, fun ι1 H1 J st1 sr1 wk => ?_⟩
  have re1 := re.step st1
  have g2 := gs_step st1 g1
  let Wi : Nat → L2.St → Hp → Prop := fun i σc Hc => ∃ ιc envc Sc, Step ι1 H1 ιc Hc ∧ REnv K ιc Hc envc σc ∧ SR K ιc Sc Hc ∧ i ≤ w.items.length ∧ GotS K ιc Hc (forL w t (fun e s => exSs F b e s) (w.items.drop i) envc Sc) D
  refine ⟨fun i m σc Hc => m = w.items.length - i ∧ Wi i σc Hc, ⟨w.items.length, by simp, ι1, env, S1, Step.refl, re1, sr1, Nat.zero_le _, by simpa using g2⟩, ?_⟩
  rintro i m σc Hc ⟨rfl, ιc, envc, Sc, stc, rec_, src, hi, gL⟩
  by_cases hlt : i < w.items.length
  · refine .inr ?_
    rw [List.drop_eq_getElem_cons hlt] at gL
    unfold forL at gL
    split at gL
    · rename_i here
      split at gL
      · rename_i env1 e1
        refine ⟨wk.go i ιc Hc Sc stc.toMono src here hlt, Wi (i + 1), fun σ' H' hw => ⟨w.items.length - (i + 1), by omega, rfl, hw⟩, fun x Hy hy => ?_⟩
        obtain ⟨rd, sty, sry⟩ := wk.yld i ιc Hc Sc x Hy w.items[i] stc.toMono src here (List.getElem?_eq_getElem hlt) hy
        refine ⟨ιc, Sc, envc, w.items[i], env1, rec_.step sty, sry, rd, e1, fun σ1 re2 _ => ⟨ιc, env1, Sc, re2, sry, ?_⟩⟩
        obtain ⟨⟨fl2, env2⟩, S3, e3, g3⟩ := gs_bnd (gs_step sty gL)
        refine ⟨fl2, env2, S3, e3, fun ι4 H4 σ4 st4 sr4 re4 => ?_⟩
        have g4 := gs_step st4 g3
        cases fl2 with
        | next => exact ⟨ι4, env2, S3, (stc.trans sty).trans st4, re4, sr4, hlt, g4⟩
        | cont => exact ⟨ι4, env2, S3, (stc.trans sty).trans st4, re4, sr4, hlt, g4⟩
        | brk => exact gs_nx g4 sr4 re4
        | ret d =>
          intro v r
          obtain ⟨_, _, _, e5, q5⟩ := g4
          cases e5
          exact q5 ι4 H4 σ4 Step.refl sr4 re4 v r
      · exact (gs_bad gL).elim
    · exact (gs_bad gL).elim
  · have hi2 : i = w.items.length := by omega
    subst hi2
    rw [List.drop_length] at gL
    unfold forL at gL
    split at gL
    · rename_i here
      exact .inl ⟨wk.stop _ ιc Hc _ stc.toMono src here (Nat.le_refl _), gs_nx gL src rec_⟩
    · exact (gs_bad gL).elim

/-! ### a, b = x, y -/
theorem parN_len {c : Cn} : ∀ {is : List Nat} {es : List Expr} {ns : List Str}, parN c is es ns = true → es.length = is.length ∧ ns.length = is.length
  | [], [], [], _ => ⟨rfl, rfl⟩
  | i :: is, e :: es, y :: ys, h => by
    cases e <;> first | (simp [parN] at h; done) | skip
    rw [parN] at h
    simp only [Bool.and_eq_true] at h
    obtain ⟨h1, h2⟩ := parN_len h.2
    exact ⟨by rw [List.length_cons, List.length_cons, h1], by rw [List.length_cons, List.length_cons, h2]⟩
  | [], [], _ :: _, h => by simp [parN] at h
  | [], _ :: _, _, h => by simp [parN] at h
  | _ :: _, [], _, h => by simp [parN] at h
  | _ :: _, e :: _, [], h => by cases e <;> simp [parN] at h
theorem parN_cons {c : Cn} {i : Nat} {is : List Nat} {es : List Expr} {ns : List Str} (h : parN c (i :: is) es ns = true) :
    ∃ x p es' ns', es = .Name x p :: es' ∧ ns = x :: ns' ∧ c.N[i]? = some x ∧ c.sc.names.lookup x = some .local ∧ parN c is es' ns' = true := by
  cases es with
  | nil => simp [parN] at h
  | cons e es =>
    cases ns with
    | nil => cases e <;> simp [parN] at h
    | cons y ys =>
      cases e <;> first | (simp [parN] at h; done) | skip
      rw [parN] at h
      simp only [Bool.and_eq_true, decide_eq_true_eq] at h
      obtain ⟨⟨⟨h1, rfl⟩, h3⟩, h4⟩ := h
      exact ⟨_, _, es, ys, rfl, rfl, h1, h3, h4⟩
theorem parN_nil {c : Cn} {es : List Expr} {ns : List Str} (h : parN c [] es ns = true) : es = [] ∧ ns = [] := by
  cases es with
  | nil => cases ns with
    | nil => exact ⟨rfl, rfl⟩
    | cons _ _ => simp [parN] at h
  | cons _ _ => simp [parN] at h
end
end SX
namespace SX
open PySem PySem.Spec PyProof.Rows L2
noncomputable section
open Classical
variable [Tabs]

structure FitsS (c : Cn) (F : Fns) (X : Cx) : Prop where
  fits : Fits c F X
  fn : ∀ x, X.fn x = true
  kind : X.env.scope.kind = .function
theorem swaps_not {e : Expr} {o : Option Expr} {l : Nat} {env : PySem.Env} (h : notComp e = true) : swapsWith e o l env = pure false := by
  cases e <;> first | rfl | cases h
theorem swaps_sub {e o i : Expr} {p : Pos} {l : Nat} {env : PySem.Env} : swapsWithSole [.Subscript o i p] e l env = pure false := by
  cases e <;> rfl
theorem stores_sub {e o i : Expr} {p : Pos} {env : PySem.Env} : swappedStores [.Subscript o i p] e env = pure none := by
  cases e <;> rfl
/-- o[i] = v : the target's tree -/
theorem assign_sub {c : Cn} {e : E} {o i : Expr} {pos : Pos} {env : PySem.Env} (h : ckE c e i = true) : ∀ v, assign (.Subscript o i pos) env v = (do
      let ov ← holding [v] (eval o env)
      let iv ← holding [v, ov] (eval i env)
      standAt pos
      holding [v, ov, iv] (setItem ov iv v)
      release [v, ov, iv] []) := by
  intro v
  cases i <;> first | rfl | (cases e <;> simp [ckE] at h)
/-- name = value -/
theorem sn_set {F : Fns} {i : Nat} {e : E} {c : Cn} {X : Cx} {x : Str} {p pos : Pos} {v : Expr} (f : FitsS c F X) (h1 : ckT c (.nm i) (.Name x p) = true) (h2 : ckE c e v = true) :
    PS X (.Assign [.Name x p] v pos) (RdS X.K (exS F (.asg (.nm i) e))) := by
  have h1' := h1
  rw [ckT] at h1
  rw [Bool.and_eq_true, decide_eq_true_eq] at h1
  have hN : X.N.Nodup := by rw [f.fits.N]; exact f.fits.nd
  have hi : X.N[i]? = some x := by rw [f.fits.N]; exact h1.1
  have hx : Loc X.env.scope x := by rw [f.fits.sc]; exact loc_of h1.2
  have rd : ∀ D σ H, RdS X.K (exS F (.asg (.nm i) e)) D σ H → RdE X.K F e σ H fun v H1 => gName i v σ H1 D.nx := fun D σ H q => by
    obtain ⟨ι, env, S, re, sr, g⟩ := q
    rw [exS] at g
    refine gs_E re sr g fun ι1 H1 d v S1 st re1 sr1 r g1 => ?_
    rw [asgT] at g1
    exact gs_nx g1 sr1 (re1.set r)
  by_cases hc : notComp v = true
  · exact PS.imp (ps_set hN hi hx (sn_E F e c X v f.fits h2) (swaps_not hc) (.inl (f.fn x))) rd
  · cases v with
    | ListComp el gens scope vp =>
      by_cases hs : (X.env.blockKind == .function && X.env.kindOf x == some .local && p.line == vp.line && !(scope.names.any fun (n, k) => n == x && (k == .local || k == .cell))) = true
      · cases e <;> first | (simp [ckE] at h2; done) | skip
        case lc elt t it cs own =>
          have h2' := h2
          unfold ckE at h2
          split at h2
          · rename_i el' tg iter ifs as scope' pos' heq
            cases heq
            simp only [Bool.and_eq_true, decide_eq_true_eq] at h2
            obtain ⟨⟨⟨⟨⟨⟨⟨⟨rfl, g1⟩, g2⟩, g3⟩, g4⟩, g5⟩, g6⟩, g7⟩, g8⟩ := h2
            obtain ⟨ok, hg, hsl⟩ := lc_ok t own c X tg scope f.fits g2 g3 g4 g5
            have hi2 : PI X tg iter (RdI X.K F it) := sn_It F it c X tg iter f.fits g1
            have ht : ∀ (s : Shared) (H : Hp) (C : Addr) (cl : List (Str × Addr)) (fp : List Addr), PTs (X.blk s H scope (compEnvC scope cl C X.env) fp) ifs (RdB X.K fun e s => evTs F cs e s) := fun s H C cl fp => sn_Ts F cs _ _ ifs (f.fits.blk s H scope C cl fp) g6 g7
            have he : ∀ (s : Shared) (H : Hp) (C : Addr) (cl : List (Str × Addr)) (fp : List Addr), PE (X.blk s H scope (compEnvC scope cl C X.env) fp) el (RdE X.K F elt) := fun s H C cl fp => sn_E F elt _ _ el (f.fits.blk s H scope C cl fp) g8
            have hown : (ownP c.N own).map (·.2) = own := by unfold ownP; rw [List.map_map]; exact List.map_id' own
            have hs' := hs
            simp only [Bool.and_eq_true, beq_iff_eq] at hs'
            have := ps_setLc (spos := pos) (py := p) f.fits.calm hN hi hs'.1.1.2 (show swapsWith (.ListComp el [⟨tg, iter, ifs, 0⟩] scope vp) (some (.Name x p)) pos.line X.env = pure true from (by
              show (pure (X.env.blockKind == .function && X.env.kindOf x == some .local && p.line == vp.line && !(scope.names.any fun (n, k) => n == x && (k == .local || k == .cell))) : Sem Bool) = pure true
              rw [hs])) hi2 ok hg ht he (ckIt_fold g1 X.env)
            rw [hown] at this
            refine PS.imp this fun D σ H q => ?_
            exact lc_read hsl (rd D σ H q)
          · cases h2
        case lc2 elt t it cs own t1 it1 cs1 own1 =>
          have h2' := h2
          unfold ckE at h2
          split at h2
          · rename_i el' tg iter ifs as tg1 iter1 ifs1 as1 scope' pos' heq
            cases heq
            simp only [Bool.and_eq_true, decide_eq_true_eq] at h2
            obtain ⟨⟨⟨⟨⟨⟨⟨⟨⟨⟨⟨⟨⟨⟨⟨rfl, rfl⟩, g1⟩, g2⟩, g3⟩, g4⟩, k1⟩, k2⟩, g5⟩, g6⟩, g7⟩, k3⟩, k4⟩, k5⟩, k6⟩, g8⟩ := h2
            obtain ⟨ok, hg, hsl⟩ := lc_ok t own c X tg scope f.fits g2 g3 g4 g5
            have kk : (slotsT t1).all (fun i => own.contains i) = true := List.all_eq_true.mpr fun i hi => List.all_eq_true.mp k2 i (slots_own k1 i hi)
            obtain ⟨_, hg1, _⟩ := lc_ok t1 own c X tg1 scope f.fits g2 kk g4 k4
            have ht : ∀ (s : Shared) (H : Hp) (C : Addr) (cl : List (Str × Addr)) (fp : List Addr), PTs (X.blk s H scope (compEnvC scope cl C X.env) fp) ifs (RdB X.K fun e s => evTs F cs e s) := fun s H C cl fp => sn_Ts F cs _ _ ifs (f.fits.blk s H scope C cl fp) g6 g7
            have ht1 : ∀ (s : Shared) (H : Hp) (C : Addr) (cl : List (Str × Addr)) (fp : List Addr), PTs (X.blk s H scope (compEnvC scope cl C X.env) fp) ifs1 (RdB X.K fun e s => evTs F cs1 e s) := fun s H C cl fp => sn_Ts F cs1 _ _ ifs1 (f.fits.blk s H scope C cl fp) k5 k6
            have hi1 : ∀ (s : Shared) (H : Hp) (C : Addr) (cl : List (Str × Addr)) (fp : List Addr), PI (X.blk s H scope (compEnvC scope cl C X.env) fp) tg1 iter1 (RdI X.K F it1) := fun s H C cl fp => sn_It F it1 _ _ tg1 iter1 (f.fits.blk s H scope C cl fp) k3
            have he : ∀ (s : Shared) (H : Hp) (C : Addr) (cl : List (Str × Addr)) (fp : List Addr), PE (X.blk s H scope (compEnvC scope cl C X.env) fp) el (RdE X.K F elt) := fun s H C cl fp => sn_E F elt _ _ el (f.fits.blk s H scope C cl fp) g8
            have hs' := hs
            simp only [Bool.and_eq_true, beq_iff_eq] at hs'
            have := ps_setLc2 (spos := pos) (py := p) (vs1 := own1) f.fits.calm hN hi hs'.1.1.2 (show swapsWith (.ListComp el [⟨tg, iter, ifs, 0⟩, ⟨tg1, iter1, ifs1, 0⟩] scope vp) (some (.Name x p)) pos.line X.env = pure true from (by
              show (pure (X.env.blockKind == .function && X.env.kindOf x == some .local && p.line == vp.line && !(scope.names.any fun (n, k) => n == x && (k == .local || k == .cell))) : Sem Bool) = pure true
              rw [hs])) (sn_It F it c X tg iter f.fits g1) ok (by rw [own_map]; exact fun i hi => by simpa using List.all_eq_true.mp k2 i hi) hg ht hi1 hg1 ht1 he (ckIt_fold g1 X.env) (fun env => ckIt_fold k3 env)
            rw [own_map] at this
            refine PS.imp this fun D σ H q => ?_
            exact lc2_read hsl (slots_own k1) (rd D σ H q)
          · cases h2
      · refine PS.imp (ps_set hN hi hx (sn_E F e c X _ f.fits h2) (show swapsWith (.ListComp el gens scope vp) (some (.Name x p)) pos.line X.env = pure false from (by
            show (pure (X.env.blockKind == .function && X.env.kindOf x == some .local && p.line == vp.line && !(scope.names.any fun (n, k) => n == x && (k == .local || k == .cell))) : Sem Bool) = pure false
            rw [Bool.not_eq_true] at hs
            rw [hs])) (.inl (f.fn x))) rd
    | SetComp _ _ _ _ => cases e <;> simp [ckE] at h2
    | DictComp _ _ _ _ _ => cases e <;> simp [ckE] at h2
    | _ => exact absurd rfl hc
theorem reps3 {K : PySem.W.Frag} {ι : List Addr} {H : Hp} {d e g : D} {xs : List V} (r : Reps K ι H [d, e, g] xs) : ∃ x y z, xs = [x, y, z] ∧ Rep K ι H d x ∧ Rep K ι H e y ∧ Rep K ι H g z := by
  obtain ⟨v, w, rfl, h1, h2⟩ := r.uncons
  obtain ⟨y, z, rfl, h3, h4⟩ := reps2 h2
  exact ⟨v, y, z, rfl, h1, h3, h4⟩
theorem sn_par {F : Fns} {is : List Nat} {es : Es} {c : Cn} {X : Cx} {ts vs : List Expr} {k k2 : Nat} {p p2 pos : Pos} {ns : List Str} (f : FitsS c F X) (h0 : swp c.sc ts vs = some (some ns)) (h1 : parN c is ts ns = true) (h2 : is.Nodup) (h3 : is.length = 2 ∨ is.length = 3)
    (h4 : ckEs c es vs = true) : PS X (.Assign [.Tuple ts k p] (.Tuple vs k2 p2) pos) (RdS X.K (exS F (.par is es))) := by
  have hN : X.N.Nodup := by rw [f.fits.N]; exact f.fits.nd
  have hw : swappedStores [.Tuple ts k p] (.Tuple vs k2 p2) X.env = pure (some ns) := swp_ok f.kind (by rw [f.fits.sc]; exact h0)
  have pa := sn_Es F es c X vs f.fits h4
  have lv : vs.length = ts.length := by
    unfold swp at h0
    split at h0
    · cases h0
    · rename_i c1
      simp only [Bool.not_eq_true, Bool.or_eq_false_iff, bne_eq_false_iff_eq] at c1
      exact c1.2
  have lt := (parN_len h1).1
  rcases h3 with h3 | h3
  · obtain ⟨i, j, rfl⟩ : ∃ i j, is = [i, j] := by
      match is, h3 with
      | [i, j], _ => exact ⟨i, j, rfl⟩
    obtain ⟨x, px, ts1, ns1, rfl, rfl, a1, a2, h1⟩ := parN_cons h1
    obtain ⟨y, py, ts2, ns2, rfl, rfl, b1, b2, h1⟩ := parN_cons h1
    obtain ⟨rfl, rfl⟩ := parN_nil h1
    obtain ⟨a, b, rfl⟩ : ∃ a b, vs = [a, b] := by
      match vs, lv with
      | [a, b], _ => exact ⟨a, b, rfl⟩
    have hij : i ≠ j := by
      intro e
      subst e
      simp at h2
    refine PS.imp (ps_par f.fits.calm hN (by rw [f.fits.N]; exact a1) (by rw [f.fits.N]; exact b1) hij (by rw [f.fits.sc]; exact a2) (by rw [f.fits.sc]; exact b2) pa hw) fun D σ H q => ?_
    obtain ⟨ι, env, S, re, sr, g⟩ := q
    rw [exS] at g
    refine gs_Es re sr g fun ι1 H1 ds vs S1 st re1 sr1 r g1 => ?_
    split at g1
    · rename_i env1 e1
      match ds, e1 with
      | [d1, d2], e1 =>
        obtain ⟨v, w, rfl, r1, r2⟩ := reps2 r
        simp only [setAll] at e1
        cases e1
        exact ⟨v, w, rfl, gs_nx g1 sr1 ((re1.set r1).set r2)⟩
      | [], e1 => simp [setAll] at e1
      | [_], e1 => simp [setAll] at e1
      | _ :: _ :: _ :: _, e1 => simp [setAll] at e1
    · exact (gs_bad g1).elim
  · obtain ⟨i, j, l, rfl⟩ : ∃ i j l, is = [i, j, l] := by
      match is, h3 with
      | [i, j, l], _ => exact ⟨i, j, l, rfl⟩
    obtain ⟨x, px, ts1, ns1, rfl, rfl, a1, a2, h1⟩ := parN_cons h1
    obtain ⟨y, py, ts2, ns2, rfl, rfl, b1, b2, h1⟩ := parN_cons h1
    obtain ⟨z, pz, ts3, ns3, rfl, rfl, c1, c2, h1⟩ := parN_cons h1
    obtain ⟨rfl, rfl⟩ := parN_nil h1
    obtain ⟨a, b, u, rfl⟩ : ∃ a b u, vs = [a, b, u] := by
      match vs, lv with
      | [a, b, u], _ => exact ⟨a, b, u, rfl⟩
    simp only [List.nodup_cons, List.mem_cons, not_or, List.not_mem_nil, not_false_eq_true, and_true] at h2
    refine PS.imp (ps_par3 f.fits.calm hN (by rw [f.fits.N]; exact a1) (by rw [f.fits.N]; exact b1) (by rw [f.fits.N]; exact c1) h2.1.1 h2.1.2 h2.2.1 (by rw [f.fits.sc]; exact a2) (by rw [f.fits.sc]; exact b2) (by rw [f.fits.sc]; exact c2) pa hw) fun D σ H q => ?_
    obtain ⟨ι, env, S, re, sr, g⟩ := q
    rw [exS] at g
    refine gs_Es re sr g fun ι1 H1 ds vs S1 st re1 sr1 r g1 => ?_
    split at g1
    · rename_i env1 e1
      match ds, e1 with
      | [d1, d2, d3], e1 =>
        obtain ⟨v, w, q, rfl, r1, r2, r3⟩ := reps3 r
        simp only [setAll] at e1
        cases e1
        exact ⟨v, w, q, rfl, gs_nx g1 sr1 (((re1.set r1).set r2).set r3)⟩
      | [], e1 => simp [setAll] at e1
      | [_], e1 => simp [setAll] at e1
      | [_, _], e1 => simp [setAll] at e1
      | _ :: _ :: _ :: _ :: _, e1 => simp [setAll] at e1
    · exact (gs_bad g1).elim

mutual
theorem sn_S (F : Fns) : ∀ (s : St) (c : Cn) (X : Cx) (x : Stmt), FitsS c F X → ckS c s x = true → PS X x (RdS X.K (exS F s))
  | .asg t e, c, X, x, f, h => by
    unfold ckS at h
    split at h
    · rename_i tg v pos
      simp only [Bool.and_eq_true] at h
      obtain ⟨⟨h1, h2⟩, h3⟩ := h
      cases t with
      | nm i =>
        have h1' := h1
        unfold ckT at h1'
        split at h1'
        · exact sn_set f h1 h2
        · cases h1'
      | tp ts =>
        have h1' := h1
        unfold ckT at h1'
        split at h1'
        · rename_i es k p
          have hg := pg_T f.fits.calm f.fits.N f.fits.nd f.fits.sc (.tp ts) _ h1 fun i _ x _ => .inl (f.fn x)
          have hst : swappedStores [.Tuple es k p] v X.env = pure none := by
            cases v with
            | Tuple vs k2 p2 => exact swp_ok f.kind (by rw [f.fits.sc]; exact of_decide_eq_true h3)
            | _ => rfl
          have hc : notComp v = true := by
            cases v <;> first | rfl | exact h3
          refine PS.imp (ps_asg (sn_E F e c X v f.fits h2) hg (by cases v <;> first | rfl | cases hc) hst) fun D σ H q => ?_
          obtain ⟨ι, env, S, re, sr, g⟩ := q
          rw [exS] at g
          refine gs_E re sr g fun ι1 H1 d v S1 st re1 sr1 r g1 => ?_
          split at g1
          · rename_i env1 e1
            exact ⟨ι1, S1, env, d, env1, re1, sr1, r, e1, fun σ' re' _ => gs_nx g1 sr1 re'⟩
          · exact (gs_bad g1).elim
        · cases h1'
    · cases h
  | .par is es, c, X, x, f, h => by
    unfold ckS at h
    split at h
    · simp only [Bool.and_eq_true, decide_eq_true_eq] at h
      obtain ⟨⟨⟨h1, h2⟩, h3⟩, h4⟩ := h
      split at h1
      · rename_i ns e0
        exact sn_par f e0 h1 h2 h3 h4
      · cases h1
    · cases h
  | .setS o i v, c, X, x, f, h => by
    unfold ckS at h
    split at h
    · simp only [Bool.and_eq_true] at h
      obtain ⟨⟨h1, h2⟩, h3⟩ := h
      refine PS.imp (ps_asg (sn_E F v c X _ f.fits h3) (pg_sub (sn_E F o c X _ f.fits h1) (sn_E F i c X _ f.fits h2) set_S (assign_sub h2)) swaps_sub stores_sub) fun D σ H q => ?_
      obtain ⟨ι, env, S, re, sr, g⟩ := q
      rw [exS] at g
      refine gs_E re sr g fun ι1 H1 d1 v1 S1 st1 re1 sr1 r1 g1 => ?_
      refine gs_E re1 sr1 g1 fun ι2 H2 d2 v2 S2 st2 re2 sr2 r2 g2 => ?_
      refine gs_E re2 sr2 g2 fun ι3 H3 d3 v3 S3 st3 re3 sr3 r3 g3 => ?_
      obtain ⟨u, S4, e4, g4⟩ := gs_bnd g3
      refine ⟨ι3, S3, d2, d3, d1, sr3, Rep.step st3 _ _ r2, r3, Rep.step (st2.trans st3) _ _ r1, u, S4, e4, fun ι4 H4 _ st4 sr4 _ => ?_⟩
      exact gs_nx (gs_step st4 g4) sr4 (re3.step st4)
    · cases h
  | .augS o i op e, c, X, x, f, h => by
    unfold ckS at h
    split at h
    · rename_i o' i' tp p v pos
      simp only [Bool.and_eq_true, decide_eq_true_eq] at h
      obtain ⟨⟨⟨⟨h1, h2⟩, rfl⟩, h4⟩, h5⟩ := h
      have ha : ∀ ov iv new, augStore i' ov iv new = (do holding [new, ov, iv] (setItem ov iv new); release [new, ov, iv] []; pure .next) := by
        intro ov iv new
        cases i' <;> first | rfl | (cases i <;> simp [ckE] at h2)
      have rd : ∀ (fn : Int → Int → Int), (∀ x y z, augD op x y = some z → ∃ a b, x = .int a ∧ y = .int b ∧ z = .int (fn a b)) → ∀ D σ H, RdS X.K (exS F (.augS o i op e)) D σ H →
          tAugS (RdE X.K F o) (RdE X.K F i) (RdE X.K F e) (fun x y H Q => ∃ ι S a b, SR X.K ι S H ∧ Rep X.K ι H a x ∧ Rep X.K ι H b y ∧ (∃ l, a = .loc l) ∧ Got X.K ι H (idxD a b S) (Rep X.K) Q) (ipI fn) (SetS X.K) D σ H := fun fn hop D σ H q => by
        obtain ⟨ι, env, S, re, sr, g⟩ := q
        rw [exS] at g
        refine gs_E re sr g fun ι1 H1 d1 v1 S1 st1 re1 sr1 r1 g1 => ?_
        refine gs_E re1 sr1 g1 fun ι2 H2 d2 v2 S2 st2 re2 sr2 r2 g2 => ?_
        obtain ⟨d3, S3, e3, g3⟩ := gs_bnd g2
        unfold idxM at e3
        split at e3
        · rename_i l
          refine ⟨ι2, S2, .loc l, d2, sr2, Rep.step st2 _ _ r1, r2, ⟨l, rfl⟩, d3, S3, e3, fun ι3 H3 v3 st3 sr3 r3 => ?_⟩
          refine gs_E (re2.step st3) sr3 (gs_step st3 g3) fun ι5 H5 d5 v5 S5 st5 re5 sr5 r5 g5 => ?_
          split at g5
          · rename_i z ez
            obtain ⟨a, b, rfl, rfl, rfl⟩ := hop _ _ _ ez
            refine ⟨a, b, rep_int (Rep.step st5 _ _ r3), rep_int r5, ?_⟩
            obtain ⟨u, S6, e6, g6⟩ := gs_bnd g5
            have st35 := st3.trans st5
            refine ⟨ι5, S5, .loc l, d2, _, sr5, Rep.step (st2.trans st35) _ _ r1, Rep.step st35 _ _ r2, to_int _, (), S6, e6, fun ι6 H6 _ st6 sr6 _ => ?_⟩
            exact gs_nx (gs_step st6 g6) sr6 (re5.step st6)
          · exact (gs_bad g5).elim
        · cases e3
      rcases h4 with rfl | rfl
      · exact PS.imp (ps_augS (sn_E F o c X o' f.fits h1) (sn_E F i c X i' f.fits h2) get_S (sn_E F e c X v f.fits h5) ip_add set_S ha) (rd _ fun x y z hz => by
          unfold augD at hz
          split at hz <;> cases hz
          · exact ⟨_, _, rfl, rfl, rfl⟩
          · rename_i hp; cases hp)
      · exact PS.imp (ps_augS (sn_E F o c X o' f.fits h1) (sn_E F i c X i' f.fits h2) get_S (sn_E F e c X v f.fits h5) ip_sub set_S ha) (rd _ fun x y z hz => by
          unfold augD at hz
          split at hz <;> cases hz
          · rename_i hp; cases hp
          · exact ⟨_, _, rfl, rfl, rfl⟩)
    · cases h
  | .aug i op e, c, X, x, f, h => by
    unfold ckS at h
    split at h
    · rename_i y p o v pos
      simp only [Bool.and_eq_true, decide_eq_true_eq] at h
      obtain ⟨⟨⟨⟨h1, h2⟩, rfl⟩, h4⟩, h5⟩ := h
      have hN : X.N.Nodup := by rw [f.fits.N]; exact f.fits.nd
      have hi : X.N[i]? = some y := by rw [f.fits.N]; exact h1
      have hx : Loc X.env.scope y := by rw [f.fits.sc]; exact loc_of h2
      have rd : ∀ (fn : Int → Int → Int), (∀ x y z, augD op x y = some z → ∃ a b, x = .int a ∧ y = .int b ∧ z = .int (fn a b)) → ∀ D σ H, RdS X.K (exS F (.aug i op e)) D σ H → tAug i (RdE X.K F e) (ipI fn) D σ H := fun fn hop D σ H q => by
        obtain ⟨ι, env, S, re, sr, g⟩ := q
        rw [exS] at g
        split at g
        · rename_i d ed
          obtain ⟨w, ew, hw⟩ := re.2 i d ed
          refine ⟨w, ew, ?_⟩
          refine gs_E re sr g fun ι1 H1 d1 v1 S1 st1 re1 sr1 r1 g1 => ?_
          split at g1
          · rename_i z ez
            obtain ⟨a, b, rfl, rfl, rfl⟩ := hop _ _ _ ez
            exact ⟨a, b, rep_int hw, rep_int r1, gs_nx g1 sr1 (re1.set (to_int _))⟩
          · exact (gs_bad g1).elim
        · exact (gs_bad g).elim
      rcases h4 with rfl | rfl
      · exact PS.imp (ps_aug hN hi hx (sn_E F e c X v f.fits h5) ip_add (.inl (f.fn y))) (rd _ fun x y z hz => by
          unfold augD at hz
          split at hz <;> cases hz
          · exact ⟨_, _, rfl, rfl, rfl⟩
          · rename_i hp; cases hp)
      · exact PS.imp (ps_aug hN hi hx (sn_E F e c X v f.fits h5) ip_sub (.inl (f.fn y))) (rd _ fun x y z hz => by
          unfold augD at hz
          split at hz <;> cases hz
          · rename_i hp; cases hp
          · exact ⟨_, _, rfl, rfl, rfl⟩)
    · cases h
  | .expr e, c, X, x, f, h => by
    unfold ckS at h
    split at h
    · simp only [Bool.and_eq_true] at h
      refine PS.imp (ps_expr (sn_E F e c X _ f.fits h.1) (swaps_not h.2)) fun D σ H q => ?_
      obtain ⟨ι, env, S, re, sr, g⟩ := q
      rw [exS] at g
      exact gs_E re sr g fun ι1 H1 d1 v1 S1 st1 re1 sr1 r1 g1 => gs_nx g1 sr1 re1
    · cases h
  | .ret e, c, X, x, f, h => by
    unfold ckS at h
    split at h
    · refine PS.imp (ps_ret (sn_E F e c X _ f.fits h)) fun D σ H q => ?_
      obtain ⟨ι, env, S, re, sr, g⟩ := q
      rw [exS] at g
      refine gs_E re sr g fun ι1 H1 d1 v1 S1 st1 re1 sr1 r1 g1 => ?_
      obtain ⟨_, _, _, e5, q5⟩ := g1
      cases e5
      exact q5 ι1 H1 σ Step.refl sr1 re1 v1 r1
    · cases h
  | .retN, c, X, x, f, h => by
    unfold ckS at h
    split at h
    · refine PS.imp ps_retN fun D σ H q => ?_
      obtain ⟨ι, env, S, re, sr, g⟩ := q
      rw [exS] at g
      obtain ⟨_, _, _, e5, q5⟩ := g
      cases e5
      exact q5 ι H σ Step.refl sr re _ to_non
    · cases h
  | .ite k a b, c, X, x, f, h => by
    unfold ckS at h
    split at h
    · simp only [Bool.and_eq_true] at h
      obtain ⟨⟨h1, h2⟩, h3⟩ := h
      refine PS.imp (ps_if (sn_T F k c X _ f.fits h1 (sn_E F k c X _ f.fits h1)) (sn_Ss F a c X _ f h2) (sn_Ss F b c X _ f h3)) fun D σ H q => ?_
      obtain ⟨ι, env, S, re, sr, g⟩ := q
      rw [exS] at g
      refine gs_B (f := fun env S => truR (evE F k env S)) re sr g fun ι1 H1 b S1 st1 re1 sr1 g1 => ?_
      cases b with
      | true => exact ⟨ι1, env, S1, re1, sr1, g1⟩
      | false => exact ⟨ι1, env, S1, re1, sr1, g1⟩
    · cases h
  | .wh k b, c, X, x, f, h => by
    unfold ckS at h
    split at h
    · simp only [Bool.and_eq_true] at h
      exact PS.imp (ps_while (by rw [f.fits.xe]; exact PassesOwn.never) (sn_T F k c X _ f.fits h.1 (sn_E F k c X _ f.fits h.1)) (sn_Ss F b c X _ f h.2)) fun D σ H q => wh_read q
    · cases h
  | .fo t it b, c, X, x, f, h => by
    unfold ckS at h
    split at h
    · simp only [Bool.and_eq_true] at h
      obtain ⟨⟨h1, h2⟩, h3⟩ := h
      exact PS.imp (ps_for (by rw [f.fits.xe]; exact PassesOwn.never) f.fits.calm (sn_It F it c X _ _ f.fits h2) (pg_T f.fits.calm f.fits.N f.fits.nd f.fits.sc t _ h1 fun i _ x _ => .inl (f.fn x)) (sn_Ss F b c X _ f h3) (ckIt_fold h2 X.env)) fun D σ H q => fo_read q
    · cases h
  | .brk, c, X, x, f, h => by
    unfold ckS at h
    split at h
    · refine PS.imp ps_break fun D σ H q => ?_
      obtain ⟨ι, env, S, re, sr, g⟩ := q
      rw [exS] at g
      obtain ⟨_, _, _, e5, q5⟩ := g
      cases e5
      exact q5 ι H σ Step.refl sr re
    · cases h
  | .cont, c, X, x, f, h => by
    unfold ckS at h
    split at h
    · refine PS.imp ps_continue fun D σ H q => ?_
      obtain ⟨ι, env, S, re, sr, g⟩ := q
      rw [exS] at g
      obtain ⟨_, _, _, e5, q5⟩ := g
      cases e5
      exact q5 ι H σ Step.refl sr re
    · cases h
  | .pass, c, X, x, f, h => by
    unfold ckS at h
    split at h
    · refine PS.imp ps_pass fun D σ H q => ?_
      obtain ⟨ι, env, S, re, sr, g⟩ := q
      rw [exS] at g
      exact gs_nx g sr re
    · cases h
  | .callx _ _, c, X, x, f, h => by
    unfold ckS at h
    cases h
  | .retx _ _ _ _ _ _, c, X, x, f, h => by
    unfold ckS at h
    cases h
  | .tryx _, c, X, x, f, h => by
    unfold ckS at h
    cases h
theorem sn_Ss (F : Fns) : ∀ (ss : Ss) (c : Cn) (X : Cx) (xs : List Stmt), FitsS c F X → ckSs c ss xs = true → PSs X xs (RdS X.K (exSs F ss))
  | .nil, c, X, [], f, h => by
    refine PSs.imp pss_nil fun D σ H q => ?_
    obtain ⟨ι, env, S, re, sr, g⟩ := q
    rw [exSs] at g
    exact gs_nx g sr re
  | .nil, c, X, _ :: _, f, h => by simp [ckSs] at h
  | .cons _ _, c, X, [], f, h => by simp [ckSs] at h
  | .cons s ss, c, X, x :: xs, f, h => by
    rw [ckSs, Bool.and_eq_true] at h
    refine PSs.imp (pss_cons (sn_S F s c X x f h.1) (sn_Ss F ss c X xs f h.2)) fun D σ H q => ?_
    obtain ⟨ι, env, S, re, sr, g⟩ := q
    rw [exSs] at g
    obtain ⟨⟨fl, env1⟩, S1, e1, g1⟩ := gs_bnd g
    refine ⟨ι, env, S, re, sr, fl, env1, S1, e1, fun ι1 H1 σ1 st sr1 re1 => ?_⟩
    have g2 := gs_step st g1
    cases fl with
    | next => exact ⟨ι1, env1, S1, re1, sr1, g2⟩
    | brk =>
      obtain ⟨_, _, _, e5, q5⟩ := g2
      cases e5
      exact q5 ι1 H1 σ1 Step.refl sr1 re1
    | cont =>
      obtain ⟨_, _, _, e5, q5⟩ := g2
      cases e5
      exact q5 ι1 H1 σ1 Step.refl sr1 re1
    | ret d =>
      obtain ⟨_, _, _, e5, q5⟩ := g2
      cases e5
      exact q5 ι1 H1 σ1 Step.refl sr1 re1
end
end
end SX
namespace SX
open PySem PySem.Spec PyProof.Rows L2

structure Def where
  name : Str
  qual : Str
  st : Stmt
  N : List Str
  ps : List Str
  fd : Fd
  g : Bool
abbrev Kws := List (Nat × Nat × List Str × List Nat)
abbrev Cos := List (Str × Cst)
def cnOf (T : List Def) (bl : List Str) (kw : Kws) (co : Cos) (d : Def) : Cn := ⟨d.N, defScope d.st, bl, T.length, fun f => (T[f]?.map (·.name)).getD "", kw, co, d.g⟩
def okDef (T : List Def) (bl : List Str) (kw : Kws) (co : Cos) (d : Def) : Bool :=
  ckSs (cnOf T bl kw co d) d.fd.body (defBody d.st) && decide (d.ps.length = d.fd.np) && decide (d.N.length = d.fd.ns) && decide (d.fd.np ≤ d.fd.ns)
structure DefS (T : List Def) (bl : List Str) (kw : Kws) (co : Cos) (d : Def) : Prop where
  sc : FnScope d.N d.ps (defScope d.st)
  ok : okDef T bl kw co d = true
def prg (T : List Def) : Prg := fun f => T[f]?.map (·.fd)
/-! ### tables -/
theorem all_nil {T : List Def} {bl : List Str} {kw : Kws} {co : Cos} : ∀ d ∈ ([] : List Def), DefS T bl kw co d := fun _ h => by cases h
theorem all_cons {T : List Def} {bl : List Str} {kw : Kws} {co : Cos} {d : Def} {ds : List Def} (h : DefS T bl kw co d) (hs : ∀ d ∈ ds, DefS T bl kw co d) : ∀ e ∈ d :: ds, DefS T bl kw co e := fun e he => by
  rcases List.mem_cons.mp he with rfl | he
  · exact h
  · exact hs e he
theorem all_mem {T : List Def} {bl : List Str} {kw : Kws} {co : Cos} {ds : List Def} (h : ∀ d ∈ ds, DefS T bl kw co d) (d : Def) (hd : d ∈ ds) : DefS T bl kw co d := h d hd
noncomputable section
open Classical
variable [Tabs]
structure DefK (K : PySem.W.Frag) (mg : Str → Option Value) (kw : Kws) (f : Nat) (d : Def) : Prop where
  ex : ∃ fa fdat, Fun K d.name d.qual d.st fa fdat ∧ mg d.name = some (.ref fa) ∧ L2.Binds K fdat d.ps [] ∧ (∀ q ∈ (kw.filter fun q => q.1 == f).map (·.2), KB fdat d.ps q.1 q.2.1 q.2.2) ∧ (d.g = true → ∃ cA P, fdat.code = .ref cA ∧ (cA, P) ∈ Tabs.cs)
/-- a def by its body, in the frame of its own code object -/
theorem fun_okC {P : Program} {w : World} {K : PySem.W.Frag} {mg : Str → Option Value} {base : Heap} {x qual : Str} {st : Stmt} {f : Addr} {fd : FuncData} {N ps : List Str} {k : Nat} {sp : Sp} (F : Fun K x qual st f fd) (S : FnScope N ps (defScope st)) (len : ∀ vs H Q E, sp vs H Q E → vs.length = ps.length)
    (hb : ∀ (A : Around) (outer : List PySem.Env) (s : Shared) (H : Hp) (vs : List V) (Q : VK) (E : XK), Room k (A.deeper (envOfC qual (defScope st) s.heap.objs.size f fd.code)) → sp vs H Q E →
      ∃ t, PSs (cxOf CX0 P w K mg base N qual (defScope st) f fd.code A outer s H E).nox (defBody st) t ∧ t { nx := fun _ H' => Q .non H', rt := Q } (L2.start N vs) H) : FnOk P w K mg base CX0 (k + 1) f fd ps sp := by
  obtain ⟨z1, z2, z3, z4, z5, z6, z7, z8, z9, e0, e1, e2⟩ := F.ex
  subst e0
  refine fn_of e1 e2 S len fun A outer s H vs Q E r1 r2 => ?_
  obtain ⟨t, t1, t2⟩ := hb A outer s H vs Q E r1 r2
  exact ⟨t, t1.nox, t2⟩

theorem callN_len {T : List Def} {n f : Nat} {d : Def} {ds : List D} {S S' : Store} {r : D} (hf : T[f]? = some d) (h : callN (prg T) n f ds S = .ok r S') : ds.length = d.fd.np := by
  cases n with
  | zero => unfold callN at h; cases h
  | succ n =>
    unfold callN prg at h
    rw [hf] at h
    dsimp only [Option.map_some] at h
    split at h
    · rename_i c; exact c.1
    · cases h
theorem renv_start {K : PySem.W.Frag} {ι : List Addr} {H : Hp} {ds : List D} {vs : List V} {N : List Str} {np ns : Nat} (r : Reps K ι H ds vs) (h1 : ds.length = np) (h2 : np ≤ ns) (h3 : N.length = ns) :
    REnv K ι H (ds.map some ++ List.replicate (ns - np) none) (L2.start N vs) := by
  have hl := r.len
  refine ⟨?_, fun i d e => ?_⟩
  · unfold L2.start
    simp only [List.length_append, List.length_map, List.length_replicate]
    omega
  · have hi : i < ds.length := by
      by_cases hi : i < ds.length
      · exact hi
      · rw [List.getElem?_append_right (by simpa using hi)] at e
        rw [List.getElem?_replicate] at e
        split at e <;> cases e
    rw [List.getElem?_append_left (by simpa using hi), List.getElem?_map] at e
    cases e2 : ds[i]? with
    | none => rw [e2] at e; cases e
    | some x =>
      rw [e2] at e
      cases e
      obtain ⟨v, ev, rv⟩ := r.get e2
      refine ⟨v, ?_, rv⟩
      unfold L2.start
      rw [List.getElem?_append_left (by rw [List.length_map, ← hl]; exact hi), List.getElem?_map, ev]
      rfl
theorem fun_det {K : PySem.W.Frag} {x q x' q' : Str} {st st' : Stmt} {f : Addr} {fd fd' : FuncData} (F : Fun K x q st f fd) (F' : Fun K x' q' st' f fd') : fd = fd' := by
  obtain ⟨_, _, _, _, _, _, _, _, _, _, a, _⟩ := F.ex
  obtain ⟨_, _, _, _, _, _, _, _, _, _, b, _⟩ := F'.ex
  rw [a] at b
  have c := congrArg (fun o : Option Obj => o.map Obj.data) b
  simp only [Option.map_some, Option.some.injEq] at c
  exact Data.func.inj c
theorem callN_ok {P : Program} {w : World} {K : PySem.W.Frag} {mg : Str → Option Value} {base : Heap} {T : List Def} {bl : List Str} {kw : Kws} {co : Cos}
    (hs : ∀ (f : Nat) (d : Def), T[f]? = some d → DefS T bl kw co d) (hk : ∀ (f : Nat) (d : Def), T[f]? = some d → DefK K mg kw f d) (hb : ∀ x, bl.contains x = true → mg x = none) (hco : ∀ x k, (x, k) ∈ co → ConOk K mg x k) (hT : ∀ p ∈ Tabs.cs, GxR.TabB base mg p.1 p.2) :
    ∀ (n f : Nat) (d : Def) (fa : Addr) (fdat : FuncData), T[f]? = some d → mg d.name = some (.ref fa) → Fun K d.name d.qual d.st fa fdat → FnOk P w K mg base CX0 (8 * n) fa fdat d.ps (GSp K d.ps.length (callN (prg T) n f))
  | 0, f, d, fa, fdat, hf, hfa, F => by
    have no : ∀ vs H Q E, GSp K d.ps.length (callN (prg T) 0 f) vs H Q E → False := fun vs H Q E h => by
      obtain ⟨_, ι, S, ds, _, _, g⟩ := h
      unfold callN at g
      exact got_bad g
    exact ⟨fun vs H Q E h => h.1, fun A outer s H args us vs Q E _ _ _ _ h => (no _ _ _ _ h).elim⟩
  | n + 1, f, d, fa, fdat, hf, hfa, F => by
    have S0 := hs f d hf
    have ok := S0.ok
    unfold okDef at ok
    simp only [Bool.and_eq_true, decide_eq_true_eq] at ok
    obtain ⟨⟨⟨ck, e1⟩, e2⟩, e3⟩ := ok
    refine fun_okC F (k := 8 * n + 7) S0.sc (fun vs H Q E h => h.1) (fun A outer s H vs Q E hr h => ?_)
    have fits : FitsS (cnOf T bl kw co d) (callN (prg T) n) (cxOf CX0 P w K mg base d.N d.qual (defScope d.st) fa fdat.code A outer s H E).nox := by
      refine ⟨⟨rfl, rfl, S0.sc.nd, rfl, by have := hr.un; show (A.deeper (envOfC d.qual (defScope d.st) s.heap.objs.size fa fdat.code)).units + 65 < cLine; omega, rfl, hb, hco, fun hg => ?_, 8 * n, hr.mono (by omega), fun _ => hr.mono (by omega), fun g hg => ?_⟩, fun _ => rfl, S0.sc.kind⟩
      · obtain ⟨fa', fdat', F', m', _, _, hc⟩ := (hk f d hf).ex
        obtain ⟨cA, P, h1, h2⟩ := hc hg
        have : fdat' = fdat := by
          have q := hfa.symm.trans m'
          cases q
          exact fun_det F' F
        rw [this] at h1
        exact ⟨cA, P, h1, hT _ h2, h2⟩
      have hg' : T[g]? = some T[g] := List.getElem?_eq_getElem hg
      obtain ⟨ga, gd, G, gm, gb, gk, _⟩ := (hk g T[g] hg').ex
      have gok := callN_ok (P := P) (w := w) (base := base) hs hk hb hco hT n g T[g] ga gd hg' gm G
      have nm : (cnOf T bl kw co d).fn g = T[g].name := by
        show ((T[g]?.map Def.name).getD ("" : Str)) = _
        rw [hg']
        rfl
      refine ⟨ga, gd, T[g].ps, ?_, G.kp, gok, gb, gk, fun ds S r S' h => ?_⟩
      · rw [nm]; exact gm
      · have o2 := (hs g T[g] hg').ok
        unfold okDef at o2
        simp only [Bool.and_eq_true, decide_eq_true_eq] at o2
        rw [callN_len hg' h, ← o2.1.1.2]
    refine ⟨_, sn_Ss (callN (prg T) n) d.fd.body _ _ _ fits ck, ?_⟩
    obtain ⟨hl, ι, S, ds, sr, r, g⟩ := h
    have hds : ds.length = d.fd.np := by rw [r.len, hl, e1]
    have ec : callN (prg T) (n + 1) f ds S = endF d.fd S (exSs (callN (prg T) n) d.fd.body (ds.map some ++ List.replicate (d.fd.ns - d.fd.np) none) S) := by
      conv => lhs; unfold callN
      unfold prg
      rw [hf]
      dsimp only [Option.map_some]
      rw [if_pos ⟨hds, e3⟩]
    rw [ec] at g
    unfold endF at g
    obtain ⟨⟨fl, env1⟩, S1, ex, g1⟩ := got_bnd g
    refine ⟨ι, _, S, renv_start r hds e3 e2, sr, fl, env1, S1, ex, fun ι' H' σ' st sr1 re1 => ?_⟩
    cases fl with
    | next =>
      dsimp only at g1
      split at g1
      · rcases got_ite g1 with ⟨ht, g1⟩ | ⟨_, g1⟩
        · exact got_ok g1 ι H' .non st.back (sr.back sr1 st ht) to_non
        · exact (got_bad g1).elim
      · exact got_ok g1 ι' H' .non st sr1 to_non
    | ret x =>
      intro v rv
      dsimp only at g1
      split at g1
      · rcases got_ite g1 with ⟨⟨ht, hc⟩, g1⟩ | ⟨_, g1⟩
        · obtain ⟨t, et⟩ := st.pre
          subst et
          exact got_ok g1 ι H' v st.back (sr.back sr1 st ht) (Rep.cut x v (by rw [sr.len]; exact hc) rv)
        · exact (got_bad g1).elim
      · exact got_ok g1 ι' H' v st sr1 rv
    | brk => exact (got_bad g1).elim
    | cont => exact (got_bad g1).elim

/-! ### all defs -/
def KAll (K : PySem.W.Frag) (mg : Str → Option Value) (kw : Kws) : Nat → List Def → Prop
  | _, [] => True
  | i, d :: ds => DefK K mg kw i d ∧ KAll K mg kw (i + 1) ds
theorem kall_at {K : PySem.W.Frag} {mg : Str → Option Value} {kw : Kws} : ∀ {T : List Def} {i : Nat}, KAll K mg kw i T → ∀ (f : Nat) (d : Def), T[f]? = some d → DefK K mg kw (i + f) d
  | [], _, _, _, _, h => by simp at h
  | d :: ds, i, k, 0, e, h => by
    have h' : d = e := Option.some.inj h
    rw [← h']
    exact k.1
  | d :: ds, i, k, f + 1, e, h => by
    have := kall_at (T := ds) k.2 f e h
    rw [show i + (f + 1) = i + 1 + f by omega]
    exact this
theorem kall_get {K : PySem.W.Frag} {mg : Str → Option Value} {kw : Kws} {T : List Def} (h : KAll K mg kw 0 T) : ∀ (f : Nat) (d : Def), T[f]? = some d → DefK K mg kw f d := fun f d e => by
  have := kall_at h f d e
  rw [Nat.zero_add] at this
  exact this

/-! ### a law -/
theorem ints_reps {K : PySem.W.Frag} {ι : List Addr} {H : Hp} : ∀ ns : List Int, Reps K ι H (ns.map .int) (ns.map V.int)
  | [] => Reps.nil
  | n :: ns => .cons (to_int n) (ints_reps ns)
theorem law_sp {K : PySem.W.Frag} {H : Hp} {a : Addr} {ns : List Int} {φ : List D → Store → Res D} (hT : ∀ p ∈ Tabs.cs, H p.2 = some (.tbl #[])) (hS : SqL K H a (ns.map V.int)) (h : ∃ S', φ [.rls (ns.map .int)] [] = .ok (.bl true) S') (h2 : ∃ S', φ [.loc 0] [.lst (ns.map .int)] = .ok (.bl true) S') :
    GSp K 1 φ [.ref a] H (fun v _ => v = .bl true) fun _ _ _ => False := by
  have tb : ∀ p ∈ Tabs.cs, GxR.TabG H p.2 := fun p hp => ⟨#[], hT p hp, by first | trivial | (unfold TriplesOk; trivial)⟩
  have frozen : RoL K H a (ns.map V.int) → GSp K 1 φ [.ref a] H (fun v _ => v = .bl true) fun _ _ _ => False := fun ro => by
    obtain ⟨S', e⟩ := h
    refine ⟨rfl, [], [], [.rls (ns.map .int)], ⟨List.nodup_nil, rfl, fun l o a e _ => by simp at e, tb⟩, .cons ?_ .nil, .bl true, S', e, fun ι' H' b _ _ r => rep_bl r⟩
    unfold Rep
    exact ⟨a, _, rfl, ro, ints_reps ns⟩
  rcases hS with (h0 | h0) | h0
  · obtain ⟨S', e⟩ := h2
    refine ⟨rfl, [a], [.lst (ns.map .int)], [.loc 0], ⟨by simp, rfl, fun l o b e1 e2 => ?_, tb⟩, .cons ?_ .nil, .bl true, S', e, fun ι' H' b _ _ r => rep_bl r⟩
    · cases l with
      | zero =>
        simp at e1 e2
        subst e1 e2
        exact ⟨_, h0, ints_reps ns⟩
      | succ l => simp at e1
    · unfold Rep
      exact ⟨a, rfl, rfl⟩
  · exact frozen (.inl h0)
  · exact frozen (.inr h0)
theorem defK_mk {K : PySem.W.Frag} {h : Heap} {mg : Str → Option Value} {kw : Kws} {i : Nat} {d : Def} {f : Addr} {od an : Option Addr} {sl : Array (Option Value)} {oc kV dc pm cd ct : Value} (X : K.In h) (G : h.Ns mainGlobals mg)
    (a : PySem.W.nsIn K mainGlobals d.name = some (some (.ref f))) (l : K.lookup f = some ⟨oc, od, .func (PySem.W.fnOf d.name d.qual (defArgs d.st) (defBody d.st) (defScope d.st) .none kV dc pm an cd ct), sl⟩) (c : PySem.W.codeIn K cd d.qual = true) (k : PySem.W.keepIn K (.ref f) = true)
    (b : ∀ (kV doc pm : Value) (an : Option Addr) (cdv ct : Value) (us : List Value), us.length = d.ps.length → bindArgs (PySem.W.fnOf d.name d.qual (defArgs d.st) (defBody d.st) (defScope d.st) .none kV doc pm an cdv ct) ⟨us, []⟩ = pure (d.ps.zip us))
    (bk : ∀ (kV doc pm : Value) (an : Option Addr) (cdv ct : Value), ∀ q ∈ (kw.filter fun q => q.1 == i).map (·.2), KB (PySem.W.fnOf d.name d.qual (defArgs d.st) (defBody d.st) (defScope d.st) .none kV doc pm an cdv ct) d.ps q.1 q.2.1 q.2.2)
    (hcd : d.g = true → ∃ cA P, cd = .ref cA ∧ (cA, P) ∈ Tabs.cs) : DefK K mg kw i d := by
  have F := fun_mk (st := d.st) l c k
  exact ⟨f, _, F, PySem.W.mg_of X G a, F.binds b, bk _ _ _ _ _ _, hcd⟩
end
end SX
namespace SX
open PySem PySem.Spec PyProof.Rows L2
noncomputable section
open Classical

/-! ### how a call is reckoned -/
theorem callN_eq {P : Prg} {f : Nat} {fd : Fd} (n : Nat) (ds : List D) (S : Store) (h : P f = some fd) (h1 : ds.length = fd.np) (h2 : fd.np ≤ fd.ns) :
    callN P (n + 1) f ds S = endF fd S (exSs (callN P n) fd.body (ds.map some ++ List.replicate (fd.ns - fd.np) none) S) := by
  conv => lhs; unfold callN
  rw [h]
  dsimp only
  rw [if_pos ⟨h1, h2⟩]
theorem cuts_app (S G : Store) : Cuts S (S ++ G) := ⟨by rw [List.length_append]; omega, fun j hj => .inl (List.getElem?_append_left hj)⟩
theorem cuts_self (S : Store) : Cuts S S := ⟨Nat.le_refl _, fun j hj => .inl rfl⟩
/-- the end of a def that forgets -/
theorem end_ret {fd : Fd} {S S1 : Store} {r : Res (Flow × Env)} {d : D} {env : Env} (e : r = .ok (.ret d, env) S1) (hp : fd.pure = true) (hc : Cuts S S1) (hd : clD S.length d = true) : endF fd S r = .ok d (S1.take S.length) := by
  rw [e]
  unfold endF
  rw [bnd_ok]
  dsimp only
  rw [if_pos hp, if_pos ⟨hc, hd⟩]
theorem end_app {fd : Fd} {S : Store} {r : Res (Flow × Env)} {d : D} {env : Env} (G : Store) (e : r = .ok (.ret d, env) (S ++ G)) (hp : fd.pure = true) (hd : clD S.length d = true) : endF fd S r = .ok d S := by
  rw [end_ret e hp (cuts_app S G) hd, List.take_left]
theorem end_pure {fd : Fd} {S : Store} {r : Res (Flow × Env)} {d : D} {env : Env} (e : r = .ok (.ret d, env) S) (hp : fd.pure = true) (hd : clD S.length d = true) : endF fd S r = .ok d S := by
  rw [end_ret e hp (cuts_self S) hd, List.take_length]
theorem end_any {fd : Fd} {S S1 : Store} {r : Res (Flow × Env)} {d : D} {env : Env} (e : r = .ok (.ret d, env) S1) (hp : fd.pure = false) : endF fd S r = .ok d S1 := by
  rw [e]
  unfold endF
  rw [bnd_ok]
  dsimp only
  rw [hp]
  rfl

/-! ### while -/
theorem whN_up {c : Env → Store → Res Bool} {b : Env → Store → Res (Flow × Env)} : ∀ {n : Nat} {env : Env} {S : Store}, whN c b n env S ≠ .bad → ∀ m, n ≤ m → whN c b m env S = whN c b n env S
  | 0, env, S, h, m, _ => absurd (by unfold whN; rfl) h
  | n + 1, env, S, h, 0, hm => by omega
  | n + 1, env, S, h, m + 1, hm => by
    unfold whN at h ⊢
    cases hc : c env S with
    | bad => rfl
    | ok k S1 =>
      rw [hc] at h
      simp only [bnd_ok] at h ⊢
      cases k with
      | false => rfl
      | true =>
        simp only [if_true] at h ⊢
        cases hb : b env S1 with
        | bad => rfl
        | ok r S2 =>
          rw [hb] at h
          simp only [bnd_ok] at h ⊢
          obtain ⟨fl, env2⟩ := r
          cases fl with
          | next => exact whN_up h m (by omega)
          | cont => exact whN_up h m (by omega)
          | brk => rfl
          | ret d => rfl
theorem whL_of {c : Env → Store → Res Bool} {b : Env → Store → Res (Flow × Env)} {n : Nat} {env : Env} {S : Store} (h : whN c b n env S ≠ .bad) : whL c b env S = whN c b n env S := by
  have hex : ∃ n, whN c b n env S ≠ .bad := ⟨n, h⟩
  unfold whL
  rw [dif_pos hex]
  have h2 := choose_spec hex
  rcases Nat.le_total n (choose hex) with hle | hle
  · exact whN_up h _ hle
  · exact (whN_up h2 _ hle).symm
theorem whL_no {c : Env → Store → Res Bool} {b : Env → Store → Res (Flow × Env)} {env : Env} {S : Store} (h : ∀ n, whN c b n env S = .bad) : whL c b env S = .bad := by
  unfold whL
  rw [dif_neg]
  rintro ⟨n, hn⟩
  exact hn (h n)
/-- one turn -/
theorem whL_eq (c : Env → Store → Res Bool) (b : Env → Store → Res (Flow × Env)) (env : Env) (S : Store) :
    whL c b env S = (c env S).bnd fun k S1 => if k = true then (b env S1).bnd fun r S2 => match r.1 with
        | .next => whL c b r.2 S2
        | .cont => whL c b r.2 S2
        | .brk => .ok (.next, r.2) S2
        | .ret d => .ok (.ret d, r.2) S2
      else .ok (.next, env) S1 := by
  have one : ∀ n, whN c b (n + 1) env S = (c env S).bnd fun k S1 => if k = true then (b env S1).bnd fun r S2 => match r.1 with
        | .next => whN c b n r.2 S2
        | .cont => whN c b n r.2 S2
        | .brk => .ok (.next, r.2) S2
        | .ret d => .ok (.ret d, r.2) S2
      else .ok (.next, env) S1 := fun n => by
    conv => lhs; unfold whN
    all_goals rfl
  cases hc : c env S with
  | bad =>
    refine whL_no fun n => ?_
    cases n with
    | zero => unfold whN; rfl
    | succ n => rw [one, hc]; rfl
  | ok k S1 =>
    simp only [bnd_ok]
    cases k with
    | false =>
      simp only [Bool.false_eq_true, if_false]
      rw [whL_of (n := 1)]
      · rw [one, hc]; rfl
      · rw [one, hc]; intro z; cases z
    | true =>
      simp only [if_true]
      cases hb : b env S1 with
      | bad =>
        simp only [bnd_bad]
        refine whL_no fun n => ?_
        cases n with
        | zero => unfold whN; rfl
        | succ n => rw [one, hc]; simp only [bnd_ok, if_true]; rw [hb]; rfl
      | ok r S2 =>
        simp only [bnd_ok]
        obtain ⟨fl, env2⟩ := r
        have go : ∀ n, whN c b (n + 1) env S = (match (generalizing := false) fl with
            | .next => whN c b n env2 S2
            | .cont => whN c b n env2 S2
            | .brk => .ok (.next, env2) S2
            | .ret d => .ok (.ret d, env2) S2) := fun n => by
          rw [one, hc]
          simp only [bnd_ok, if_true]
          refine (congrArg (fun z => Res.bnd z _) hb).trans ?_
          rfl
        have lp : (∀ n, whN c b (n + 1) env S = whN c b n env2 S2) → whL c b env S = whL c b env2 S2 := fun hh => by
          by_cases hex : ∃ n, whN c b n env2 S2 ≠ .bad
          · obtain ⟨n, hn⟩ := hex
            rw [whL_of hn, whL_of (n := n + 1) (by rw [hh]; exact hn), hh]
          · have hno : ∀ n, whN c b n env2 S2 = .bad := fun n => Classical.byContradiction fun z => hex ⟨n, z⟩
            rw [whL_no hno]
            refine whL_no fun n => ?_
            cases n with
            | zero => unfold whN; rfl
            | succ n => rw [hh, hno]
        cases fl with
        | next => exact lp go
        | cont => exact lp go
        | brk =>
          rw [whL_of (n := 1)]
          · exact go 0
          · rw [go 0]; intro z; cases z
        | ret d =>
          rw [whL_of (n := 1)]
          · exact go 0
          · rw [go 0]; intro z; cases z

/-! ### the store's places -/
@[simp] theorem st_get (S G : Store) (k : Nat) : (S ++ G)[S.length + k]? = G[k]? := by
  rw [List.getElem?_append_right (by omega)]
  congr 1
  omega
@[simp] theorem st_get0 (S G : Store) : (S ++ G)[S.length]? = G[0]? := by
  rw [List.getElem?_append_right (Nat.le_refl _), Nat.sub_self]
@[simp] theorem st_set (S G : Store) (k : Nat) (o : SO) : (S ++ G).set (S.length + k) o = S ++ G.set k o := by
  rw [List.set_append_right _ _ (by omega)]
  congr 2
  omega
@[simp] theorem st_set0 (S G : Store) (o : SO) : (S ++ G).set S.length o = S ++ G.set 0 o := by
  rw [List.set_append_right _ _ (Nat.le_refl _), Nat.sub_self]
@[simp] theorem at0 {α : Type} (x : α) (xs : List α) : atI (x :: xs) 0 = some x := by
  unfold atI ixN
  simp
@[simp] theorem at1 {α : Type} (x y : α) (xs : List α) : atI (x :: y :: xs) 1 = some y := by
  unfold atI ixN
  have : (1 : Int) < ((x :: y :: xs).length : Int) := by simp; omega
  simp only [List.length_cons] at this ⊢
  rw [if_pos (by decide), if_pos this]
  rfl
@[simp] theorem at2 {α : Type} (x y z : α) (xs : List α) : atI (x :: y :: z :: xs) 2 = some z := by
  unfold atI ixN
  have : (2 : Int) < ((x :: y :: z :: xs).length : Int) := by simp; omega
  simp only [List.length_cons] at this ⊢
  rw [if_pos (by decide), if_pos this]
  rfl
@[simp] theorem at3 {α : Type} (x y z w : α) (xs : List α) : atI (x :: y :: z :: w :: xs) 3 = some w := by
  unfold atI ixN
  have : (3 : Int) < ((x :: y :: z :: w :: xs).length : Int) := by simp; omega
  simp only [List.length_cons] at this ⊢
  rw [if_pos (by decide), if_pos this]
  rfl
@[simp] theorem at_m1 {α : Type} (xs : List α) (x : α) : atI (xs ++ [x]) (-1) = some x := atI_last xs x
theorem at_nat {α : Type} {xs : List α} {i : Int} (h0 : 0 ≤ i) (h1 : i.toNat < xs.length) : atI xs i = some xs[i.toNat] := by
  unfold atI ixN
  rw [if_pos h0, if_pos (by omega)]
  simp
theorem cmul_small {i j : Int} (h : -(2 ^ 64) < j ∧ j < 2 ^ 64) : CMulW i j ∨ CMul i j := .inr (.inr h)
theorem cmul_small' {i j : Int} (h : -(2 ^ 64) < i ∧ i < 2 ^ 64) : CMulW i j ∨ CMul i j := .inr (.inl h)
theorem cmul_wide {i j : Int} {a b : Nat} (ha : i.natAbs < 2 ^ a) (hb : j.natAbs < 2 ^ b) (h0 : 0 < a) (h1 : 0 < b) (h : a + b ≤ 1000000) : CMulW i j ∨ CMul i j := .inl (wide_mul ha hb h0 h1 h)
end
end SX
namespace SX
open PySem PySem.Spec PyProof.Rows L2
noncomputable section
open Classical

/-! ### one step at a time -/
theorem bnd_congr {α β : Type} {r r' : Res α} {k : α → Store → Res β} (h : r = r') : r.bnd k = r'.bnd k := by rw [h]
def ok1 {α β : Type} (a : α) (S : Store) (k : α → Store → Res β) : Res β := k a S
section
variable (F : Fns) (env : Env) (S : Store)
def varK (S : Store) : Option (Option D) → Res D
  | some (some d) => .ok d S
  | _ => .bad
theorem vE_var (i : Nat) : evE F (.var i) env S = varK S env[i]? := by rw [evE]; rfl
theorem varK_ok (d : D) : varK S (some (some d)) = .ok d S := rfl
theorem vE_int (i : Int) : evE F (.cint i) env S = .ok (.int i) S := by rw [evE]
theorem vE_bl (b : Bool) : evE F (.cbl b) env S = .ok (.bl b) S := by rw [evE]
theorem vE_non : evE F .cnon env S = .ok .non S := by rw [evE]
theorem vE_str (x : Str) : evE F (.cstr x) env S = .ok (.str x) S := by rw [evE]
def tupK (ds : List D) (S : Store) : Res D := if ds.length ≤ LINE then .ok (.tup ds) S else .bad
def lstK (ds : List D) (S : Store) : Res D := if ds.length ≤ LINE then new S (.lst ds) else .bad
theorem vE_tup (es : Es) : evE F (.tup es) env S = (evEs F es env S).bnd tupK := by rw [evE]; rfl
theorem vE_lst (es : Es) : evE F (.lst es) env S = (evEs F es env S).bnd lstK := by rw [evE]; rfl
def binJ (op : BO) (x y : D) (S2 : Store) : Res D := binD op x y S2
def binK (op : BO) (b : E) (x : D) (S1 : Store) : Res D := (evE F b env S1).bnd (binJ op x)
theorem binJ_eq (op : BO) (x y : D) : binJ op x y S = binD op x y S := rfl
theorem binK_eq (op : BO) (b : E) (x : D) : binK F env op b x S = (evE F b env S).bnd (binJ op x) := rfl
theorem vE_bin (op : BO) (a b : E) : evE F (.bin op a b) env S = (evE F a env S).bnd (binK F env op b) := by rw [evE]; rfl
def negK (x : D) (S1 : Store) : Res D := match x with
    | .int i => .ok (.int (-i)) S1
    | _ => .bad
theorem vE_neg (a : E) : evE F (.neg a) env S = (evE F a env S).bnd negK := by rw [evE]; rfl
def notK (b : Bool) (S1 : Store) : Res D := .ok (.bl (!b)) S1
theorem notK_eq (b : Bool) : notK b S = .ok (.bl (!b)) S := rfl
theorem vE_not (a : E) : evE F (.not a) env S = (truR (evE F a env S)).bnd notK := by rw [evE]; rfl
theorem vE_and (es : Es) : evE F (.and es) env S = evAnd F es env S := by rw [evE]
theorem vE_or (es : Es) : evE F (.or es) env S = evOr F es env S := by rw [evE]
def cmpJ (op : CO) (x y : D) (S2 : Store) : Res D := ofB (cmpD op x y S2) S2
def cmpK (op : CO) (b : E) (x : D) (S1 : Store) : Res D := (evE F b env S1).bnd (cmpJ op x)
theorem cmpJ_eq (op : CO) (x y : D) : cmpJ op x y S = ofB (cmpD op x y S) S := rfl
theorem cmpK_eq (op : CO) (b : E) (x : D) : cmpK F env op b x S = (evE F b env S).bnd (cmpJ op x) := rfl
theorem vE_cmp (op : CO) (a b : E) : evE F (.cmp op a b) env S = (evE F a env S).bnd (cmpK F env op b) := by rw [evE]; rfl
def brE (a b : E) (k : Bool) (S1 : Store) : Res D := if k = true then evE F a env S1 else evE F b env S1
theorem vE_ite (c a b : E) : evE F (.ite c a b) env S = (truR (evE F c env S)).bnd (brE F env a b) := by rw [evE]; rfl
theorem brE_t (a b : E) : brE F env a b true S = evE F a env S := rfl
theorem brE_f (a b : E) : brE F env a b false S = evE F b env S := rfl
def idxJ (x y : D) (S2 : Store) : Res D := idxD x y S2
def idxK (b : E) (x : D) (S1 : Store) : Res D := (evE F b env S1).bnd (idxJ x)
theorem idxJ_eq (x y : D) : idxJ x y S = idxD x y S := rfl
theorem idxK_eq (b : E) (x : D) : idxK F env b x S = (evE F b env S).bnd (idxJ x) := rfl
theorem vE_idx (a b : E) : evE F (.idx a b) env S = (evE F a env S).bnd (idxK F env b) := by rw [evE]; rfl
theorem vE_slc (a lo hi : E) : evE F (.slc a lo hi) env S = (evE F a env S).bnd fun x S1 =>
      (if isAbs lo = true then .ok none S1 else optI (evE F lo env S1)).bnd fun l S2 =>
      (if isAbs hi = true then .ok none S2 else optI (evE F hi env S2)).bnd fun h S3 => slcD x l h S3 := by rw [evE]
def calJ (f : Nat) (ds : List D) (S1 : Store) : Res D := F f ds S1
theorem calJ_eq (f : Nat) (ds : List D) : calJ F f ds S = F f ds S := rfl
theorem vE_call (f : Nat) (es : Es) : evE F (.call f es) env S = (evEs F es env S).bnd (calJ F f) := by rw [evE]; rfl
def clkJ (f : Nat) (perm : List Nat) (ds zs : List D) (S2 : Store) : Res D := F f (permD perm (ds ++ zs)) S2
def clkK (f : Nat) (ks : Es) (perm : List Nat) (ds : List D) (S1 : Store) : Res D := (evEs F ks env S1).bnd (clkJ F f perm ds)
theorem clkJ_eq (f : Nat) (perm : List Nat) (ds zs : List D) : clkJ F f perm ds zs S = F f (permD perm (ds ++ zs)) S := rfl
theorem clkK_eq (f : Nat) (ks : Es) (perm : List Nat) (ds : List D) : clkK F env f ks perm ds S = (evEs F ks env S).bnd (clkJ F f perm ds) := rfl
theorem vE_callk (f : Nat) (es ks : Es) (perm : List Nat) : evE F (.callk f es ks perm) env S = (evEs F es env S).bnd (clkK F env f ks perm) := by rw [evE]; rfl
def priJ (p : Pr) (ds : List D) (S1 : Store) : Res D := primD p ds S1
theorem priJ_eq (p : Pr) (ds : List D) : priJ p ds S = primD p ds S := rfl
theorem vE_prim (p : Pr) (es : Es) : evE F (.prim p es) env S = (evEs F es env S).bnd (priJ p) := by rw [evE]; rfl
def isiJ (t : Ty) (x : D) (S1 : Store) : Res D := ofB (isD t x) S1
theorem isiJ_eq (t : Ty) (x : D) : isiJ t x S = ofB (isD t x) S := rfl
theorem vE_isin (t : Ty) (a : E) : evE F (.isin t a) env S = (evE F a env S).bnd (isiJ t) := by rw [evE]; rfl
def metJ (m : Mt) (x : D) (ds : List D) (S2 : Store) : Res D := methD m x ds S2
def metI (m : Mt) (es : Es) (x : D) (S1 : Store) : Bool → Res D
  | true => (evEs F es env S1).bnd (metJ m x)
  | false => .bad
def metK (m : Mt) (es : Es) (x : D) (S1 : Store) : Res D := metI F env m es x S1 (recvOk m x S1)
theorem metJ_eq (m : Mt) (x : D) (ds : List D) : metJ m x ds S = methD m x ds S := rfl
theorem metI_t (m : Mt) (es : Es) (x : D) : metI F env m es x S true = (evEs F es env S).bnd (metJ m x) := rfl
theorem metK_eq (m : Mt) (es : Es) (x : D) : metK F env m es x S = metI F env m es x S (recvOk m x S) := rfl
theorem vE_meth (m : Mt) (o : E) (es : Es) : evE F (.meth m o es) env S = (evE F o env S).bnd (metK F env m es) := by
  rw [evE]
  congr 1
  funext x S1
  unfold metK
  cases recvOk m x S1 <;> rfl
def lcS (t : Tg) (own : List Nat) (cs : Es) (elt : E) (w : Walk) (items acc : List D) (S : Store) : Res (List D) := lcL w t env own (fun e s => evTs F cs e s) (fun e s => evE F elt e s) items acc S
def lcJ (ds : List D) (S2 : Store) : Res D := new S2 (.lst ds)
def lcK (elt : E) (t : Tg) (cs : Es) (own : List Nat) (w : Walk) (S1 : Store) : Res D := (lcS F env t own cs elt w w.items [] S1).bnd lcJ
theorem lcJ_eq (ds : List D) : lcJ ds S = new S (.lst ds) := rfl
theorem lcK_eq (elt : E) (t : Tg) (cs : Es) (own : List Nat) (w : Walk) : lcK F env elt t cs own w S = (lcS F env t own cs elt w w.items [] S).bnd lcJ := rfl
theorem vE_lc (elt : E) (t : Tg) (it : It) (cs : Es) (own : List Nat) : evE F (.lc elt t it cs own) env S = (evIt F it env S).bnd (lcK F env elt t cs own) := by rw [evE]; rfl
theorem vE_gcon (x : Str) (k : Cst) : evE F (.gcon x k) env S = .ok k.toD S := by rw [evE]
theorem toD_int (i : Int) : Cst.toD (.int i) = .int i := rfl
theorem toD_strs (xs : List Str) : Cst.toD (.strs xs) = .tup (xs.map .str) := rfl
def chnJ (op' : CO) (c : E) (y : D) (r : D) (S3 : Store) : Res D := match r with
    | .bl true => (evE F c env S3).bnd (cmpJ op' y)
    | r => .ok r S3
def chnI (op op' : CO) (c : E) (x y : D) (S2 : Store) : Res D := (ofB (cmpD op x y S2) S2).bnd (chnJ F env op' c y)
def chnK (op op' : CO) (b c : E) (x : D) (S1 : Store) : Res D := (evE F b env S1).bnd (chnI F env op op' c x)
theorem chnI_eq (op op' : CO) (c : E) (x y : D) : chnI F env op op' c x y S = (ofB (cmpD op x y S) S).bnd (chnJ F env op' c y) := rfl
theorem chnK_eq (op op' : CO) (b c : E) (x : D) : chnK F env op op' b c x S = (evE F b env S).bnd (chnI F env op op' c x) := rfl
theorem chnJ_t (op' : CO) (c : E) (y : D) : chnJ F env op' c y (.bl true) S = (evE F c env S).bnd (cmpJ op' y) := rfl
theorem chnJ_f (op' : CO) (c : E) (y : D) : chnJ F env op' c y (.bl false) S = .ok (.bl false) S := rfl
theorem vE_chain (op op' : CO) (a b c : E) : evE F (.chain op op' a b c) env S = (evE F a env S).bnd (chnK F env op op' b c) := by rw [evE]; rfl
def tgJ (ds : List D) (S2 : Store) : Res D := .ok (.tup ds) S2
def tgK (elt : E) (t : Tg) (cs : Es) (own : List Nat) (w : Walk) (S1 : Store) : Res D := (lcS F env t own cs elt w w.items [] S1).bnd tgJ
theorem tgJ_eq (ds : List D) : tgJ ds S = .ok (.tup ds) S := rfl
theorem tgK_eq (elt : E) (t : Tg) (cs : Es) (own : List Nat) (w : Walk) : tgK F env elt t cs own w S = (lcS F env t own cs elt w w.items [] S).bnd tgJ := rfl
theorem vE_tupG (elt : E) (t : Tg) (it : It) (cs : Es) (own : List Nat) : evE F (.tupG elt t it cs own) env S = (evIt F it env S).bnd (tgK F env elt t cs own) := by rw [evE]; rfl
def qlS (all : Bool) (t : Tg) (own : List Nat) (cs : Es) (elt : E) (w : Walk) (items : List D) (S : Store) : Res D := qlL all w t env own (fun e s => evTs F cs e s) (fun e s => evE F elt e s) items S
def qlK (all : Bool) (elt : E) (t : Tg) (cs : Es) (own : List Nat) (w : Walk) (S1 : Store) : Res D := qlS F env all t own cs elt w w.items S1
theorem qlK_eq (all : Bool) (elt : E) (t : Tg) (cs : Es) (own : List Nat) (w : Walk) : qlK F env all elt t cs own w S = qlS F env all t own cs elt w w.items S := rfl
theorem vE_qual (all : Bool) (elt : E) (t : Tg) (it : It) (cs : Es) (own : List Nat) : evE F (.qual all elt t it cs own) env S = (evIt F it env S).bnd (qlK F env all elt t cs own) := by rw [evE]; rfl
def smS (t : Tg) (own : List Nat) (cs : Es) (elt : E) (w : Walk) (items : List D) (acc : Int) (S : Store) : Res D := smL w t env own (fun e s => evTs F cs e s) (fun e s => evE F elt e s) items acc S
def smK (elt : E) (t : Tg) (cs : Es) (own : List Nat) (w : Walk) (S1 : Store) : Res D := smS F env t own cs elt w w.items 0 S1
theorem smK_eq (elt : E) (t : Tg) (cs : Es) (own : List Nat) (w : Walk) : smK F env elt t cs own w S = smS F env t own cs elt w w.items 0 S := rfl
theorem vE_sumG (elt : E) (t : Tg) (it : It) (cs : Es) (own : List Nat) : evE F (.sumG elt t it cs own) env S = (evIt F it env S).bnd (smK F env elt t cs own) := by rw [evE]; rfl
def l2I (t1 : Tg) (it1 : It) (cs1 : Es) (own1 : List Nat) (elt : E) (e : Env) (acc : List D) (s : Store) : Res (List D) := (evIt F it1 e s).bnd fun w1 s1 => lcS F e t1 own1 cs1 elt w1 w1.items acc s1
def l2S (t : Tg) (own : List Nat) (cs : Es) (t1 : Tg) (it1 : It) (cs1 : Es) (own1 : List Nat) (elt : E) (w : Walk) (items acc : List D) (S : Store) : Res (List D) := lc2L w t env own (fun e s => evTs F cs e s) (l2I F t1 it1 cs1 own1 elt) items acc S
def l2K (elt : E) (t : Tg) (cs : Es) (own : List Nat) (t1 : Tg) (it1 : It) (cs1 : Es) (own1 : List Nat) (w : Walk) (S1 : Store) : Res D := (l2S F env t own cs t1 it1 cs1 own1 elt w w.items [] S1).bnd lcJ
theorem l2K_eq (elt : E) (t : Tg) (cs : Es) (own : List Nat) (t1 : Tg) (it1 : It) (cs1 : Es) (own1 : List Nat) (w : Walk) : l2K F env elt t cs own t1 it1 cs1 own1 w S = (l2S F env t own cs t1 it1 cs1 own1 elt w w.items [] S).bnd lcJ := rfl
theorem vE_lc2 (elt : E) (t : Tg) (it : It) (cs : Es) (own : List Nat) (t1 : Tg) (it1 : It) (cs1 : Es) (own1 : List Nat) : evE F (.lc2 elt t it cs own t1 it1 cs1 own1) env S = (evIt F it env S).bnd (l2K F env elt t cs own t1 it1 cs1 own1) := by rw [evE]; rfl
theorem vEs_nil : evEs F .nil env S = .ok [] S := by rw [evEs]
def conJ (d : D) (ds : List D) (S2 : Store) : Res (List D) := .ok (d :: ds) S2
def conK (es : Es) (d : D) (S1 : Store) : Res (List D) := (evEs F es env S1).bnd (conJ d)
theorem conJ_eq (d : D) (ds : List D) : conJ d ds S = .ok (d :: ds) S := rfl
theorem conK_eq (es : Es) (d : D) : conK F env es d S = (evEs F es env S).bnd (conJ d) := rfl
theorem vEs_cons (e : E) (es : Es) : evEs F (.cons e es) env S = (evE F e env S).bnd (conK F env es) := by rw [evEs]; rfl
def andK (es : Es) (d : D) (S1 : Store) : Option Bool → Res D
  | some true => evAnd F es env S1
  | some false => .ok d S1
  | none => .bad
def orK (es : Es) (d : D) (S1 : Store) : Option Bool → Res D
  | some false => evOr F es env S1
  | some true => .ok d S1
  | none => .bad
theorem vA_one (e : E) : evAnd F (.cons e .nil) env S = evE F e env S := ev_and1
def andJ (es : Es) (d : D) (S1 : Store) : Res D := andK F env es d S1 (truD d S1)
def orJ (es : Es) (d : D) (S1 : Store) : Res D := orK F env es d S1 (truD d S1)
theorem andJ_eq (es : Es) (d : D) : andJ F env es d S = andK F env es d S (truD d S) := rfl
theorem orJ_eq (es : Es) (d : D) : orJ F env es d S = orK F env es d S (truD d S) := rfl
theorem vA_cons (e e' : E) (es : Es) : evAnd F (.cons e (.cons e' es)) env S = (evE F e env S).bnd (andJ F env (.cons e' es)) := by
  rw [ev_and2]
  congr 1
theorem vO_one (e : E) : evOr F (.cons e .nil) env S = evE F e env S := ev_or1
theorem vO_cons (e e' : E) (es : Es) : evOr F (.cons e (.cons e' es)) env S = (evE F e env S).bnd (orJ F env (.cons e' es)) := by
  rw [ev_or2]
  congr 1
theorem andK_t (es : Es) (d : D) : andK F env es d S (some true) = evAnd F es env S := rfl
theorem andK_f (es : Es) (d : D) : andK F env es d S (some false) = .ok d S := rfl
theorem orK_t (es : Es) (d : D) : orK F env es d S (some true) = .ok d S := rfl
theorem orK_f (es : Es) (d : D) : orK F env es d S (some false) = evOr F es env S := rfl
theorem vT_nil : evTs F .nil env S = .ok true S := by rw [evTs]
theorem vT_cons (e : E) (es : Es) : evTs F (.cons e es) env S = truR (evE F e env S) := by rw [evTs]
def seqK (d : D) (S1 : Store) : Res Walk := match d with
    | .tup ds => .ok ⟨ds, none⟩ S1
    | .rls ds => .ok ⟨ds, none⟩ S1
    | .loc l => match S1[l]? with
      | some (.lst ds) => .ok ⟨ds, some l⟩ S1
      | none => .bad
    | _ => .bad
theorem vI_seq (e : E) : evIt F (.seq e) env S = (evE F e env S).bnd seqK := by rw [evIt]; rfl
theorem seqK_tup (ds : List D) : seqK (.tup ds) S = .ok ⟨ds, none⟩ S := rfl
theorem seqK_rls (ds : List D) : seqK (.rls ds) S = .ok ⟨ds, none⟩ S := rfl
def seqL (S : Store) (l : Nat) : Option SO → Res Walk
  | some (.lst ds) => .ok ⟨ds, some l⟩ S
  | none => .bad
theorem seqK_loc (l : Nat) : seqK (.loc l) S = seqL S l S[l]? := by
  unfold seqK seqL
  cases h : S[l]? with
  | none => simp only [h]
  | some o => cases o; simp only [h]
theorem seqL_ok (l : Nat) (ds : List D) : seqL S l (some (.lst ds)) = .ok ⟨ds, some l⟩ S := rfl
def rngK (lo hi : Int) : List D := (List.range (hi - lo).toNat).map fun (k : Nat) => .int (lo + (k : Int))
def rg1K (d : D) (S1 : Store) : Res Walk := match d with
    | .int n => if R62 n then .ok ⟨(List.range n.toNat).map fun (k : Nat) => .int (0 + (k : Int)), none⟩ S1 else .bad
    | _ => .bad
theorem vI_range1 (e : E) : evIt F (.range1 e) env S = (evE F e env S).bnd rg1K := by rw [evIt]; rfl
theorem rg1_int {n : Int} (h : R62 n) : rg1K (.int n) S = .ok ⟨rngK 0 n, none⟩ S := by
  unfold rg1K rngK
  simp only [if_pos h, Int.sub_zero]
def rg2K (x y : D) (S2 : Store) : Res Walk := match x, y with
    | .int i, .int j => if R62 i ∧ R62 j then .ok ⟨rngK i j, none⟩ S2 else .bad
    | _, _ => .bad
def rg2J (b : E) (x : D) (S1 : Store) : Res Walk := (evE F b env S1).bnd (rg2K x)
theorem rg2J_eq (b : E) (x : D) : rg2J F env b x S = (evE F b env S).bnd (rg2K x) := rfl
theorem vI_range2 (a b : E) : evIt F (.range2 a b) env S = (evE F a env S).bnd (rg2J F env b) := by rw [evIt]; rfl
def enK (d : D) (S1 : Store) : Res Walk := match d with
  | .tup ds => .ok ⟨enumD ds, none⟩ S1
  | _ => .bad
theorem vI_enum (e : E) : evIt F (.enum e) env S = (evE F e env S).bnd enK := by rw [evIt]; rfl
theorem enK_eq (ds : List D) : enK (.tup ds) S = .ok ⟨enumD ds, none⟩ S := rfl
def zpK (x y : D) (S2 : Store) : Res Walk := match x, y with
  | .tup xs, .tup ys => .ok ⟨zipD xs ys, none⟩ S2
  | _, _ => .bad
def zpJ (b : E) (x : D) (S1 : Store) : Res Walk := (evE F b env S1).bnd (zpK x)
theorem zpJ_eq (b : E) (x : D) : zpJ F env b x S = (evE F b env S).bnd (zpK x) := rfl
theorem vI_zip (a b : E) : evIt F (.zip a b) env S = (evE F a env S).bnd (zpJ F env b) := by rw [evIt]; rfl
theorem zpK_eq (xs ys : List D) : zpK (.tup xs) (.tup ys) S = .ok ⟨zipD xs ys, none⟩ S := rfl
theorem rg2_int {i j : Int} (h : R62 i ∧ R62 j) : rg2K (.int i) (.int j) S = .ok ⟨rngK i j, none⟩ S := by
  unfold rg2K
  simp only [if_pos h]

/-! ### statements -/
def asgK (t : Tg) (d : D) (S1 : Store) : Res (Flow × Env) := match asgT t d S1 env with
    | some env1 => .ok (.next, env1) S1
    | none => .bad
theorem xS_asg (t : Tg) (e : E) : exS F (.asg t e) env S = (evE F e env S).bnd (asgK env t) := by rw [exS]; rfl
theorem asgK_nm (i : Nat) (d : D) : asgK env (.nm i) d S = .ok (.next, env.set i (some d)) S := by unfold asgK; simp only [asgT]
theorem asgT_nm (i : Nat) (d : D) : asgT (.nm i) d S env = some (env.set i (some d)) := by rw [asgT]
theorem asgT_tp2 (i j : Nat) (x y : D) : asgT (.tp (.cons (.nm i) (.cons (.nm j) .nil))) (.tup [x, y]) S env = some ((env.set i (some x)).set j (some y)) := rfl
theorem asgT_tp3 (i j k : Nat) (x y z : D) : asgT (.tp (.cons (.nm i) (.cons (.nm j) (.cons (.nm k) .nil)))) (.tup [x, y, z]) S env = some (((env.set i (some x)).set j (some y)).set k (some z)) := rfl
theorem asgK_tp2 (i j : Nat) (x y : D) : asgK env (.tp (.cons (.nm i) (.cons (.nm j) .nil))) (.tup [x, y]) S = .ok (.next, (env.set i (some x)).set j (some y)) S := rfl
theorem asgK_tp3 (i j k : Nat) (x y z : D) : asgK env (.tp (.cons (.nm i) (.cons (.nm j) (.cons (.nm k) .nil)))) (.tup [x, y, z]) S = .ok (.next, ((env.set i (some x)).set j (some y)).set k (some z)) S := rfl
def parK (is : List Nat) (ds : List D) (S1 : Store) : Res (Flow × Env) := match setAll env is ds with
    | some env1 => .ok (.next, env1) S1
    | none => .bad
theorem xS_par (is : List Nat) (es : Es) : exS F (.par is es) env S = (evEs F es env S).bnd (parK env is) := by rw [exS]; rfl
theorem parK_2 (i j : Nat) (x y : D) : parK env [i, j] [x, y] S = .ok (.next, (env.set i (some x)).set j (some y)) S := rfl
theorem parK_3 (i j k : Nat) (x y z : D) : parK env [i, j, k] [x, y, z] S = .ok (.next, ((env.set i (some x)).set j (some y)).set k (some z)) S := rfl
def nxtK {α : Type} (_ : α) (S4 : Store) : Res (Flow × Env) := .ok (.next, env) S4
def setI3 (x y z : D) (S3 : Store) : Res (Flow × Env) := (setD y z x S3).bnd (nxtK env)
def setI2 (i : E) (x y : D) (S2 : Store) : Res (Flow × Env) := (evE F i env S2).bnd (setI3 env x y)
def setI1 (o i : E) (x : D) (S1 : Store) : Res (Flow × Env) := (evE F o env S1).bnd (setI2 F env i x)
theorem nxtK_eq {α : Type} (a : α) : nxtK env a S = .ok (.next, env) S := rfl
theorem setI3_eq (x y z : D) : setI3 env x y z S = (setD y z x S).bnd (nxtK env) := rfl
theorem setI2_eq (i : E) (x y : D) : setI2 F env i x y S = (evE F i env S).bnd (setI3 env x y) := rfl
theorem setI1_eq (o i : E) (x : D) : setI1 F env o i x S = (evE F o env S).bnd (setI2 F env i x) := rfl
theorem xS_setS (o i v : E) : exS F (.setS o i v) env S = (evE F v env S).bnd (setI1 F env o i) := by rw [exS]; rfl
def augK (i : Nat) (op : BO) (x y : D) (S1 : Store) : Res (Flow × Env) := match augD op x y with
      | some z => .ok (.next, env.set i (some z)) S1
      | none => .bad
def augV (i : Nat) (op : BO) (e : E) : Option (Option D) → Res (Flow × Env)
  | some (some x) => (evE F e env S).bnd (augK env i op x)
  | _ => .bad
theorem xS_aug (i : Nat) (op : BO) (e : E) : exS F (.aug i op e) env S = augV F env S i op e env[i]? := by rw [exS]; rfl
theorem augV_ok (i : Nat) (op : BO) (e : E) (x : D) : augV F env S i op e (some (some x)) = (evE F e env S).bnd (augK env i op x) := rfl
theorem augK_add (i : Nat) (a b : Int) : augK env i .add (.int a) (.int b) S = .ok (.next, env.set i (some (.int (a + b)))) S := rfl
theorem augK_sub (i : Nat) (a b : Int) : augK env i .sub (.int a) (.int b) S = .ok (.next, env.set i (some (.int (a - b)))) S := rfl
def agR (y z : D) (S4 : Store) : Option D → Res (Flow × Env)
  | some r => (setD y z r S4).bnd (nxtK env)
  | none => .bad
def agD (op : BO) (y z x d : D) (S4 : Store) : Res (Flow × Env) := agR env y z S4 (augD op x d)
def agX (op : BO) (e : E) (y z x : D) (S3 : Store) : Res (Flow × Env) := (evE F e env S3).bnd (agD env op y z x)
def agI (op : BO) (e : E) (y z : D) (S2 : Store) : Res (Flow × Env) := (idxM y z S2).bnd (agX F env op e y z)
def agO (i : E) (op : BO) (e : E) (y : D) (S1 : Store) : Res (Flow × Env) := (evE F i env S1).bnd (agI F env op e y)
theorem agR_some (y z r : D) : agR env y z S (some r) = (setD y z r S).bnd (nxtK env) := rfl
theorem agD_eq (op : BO) (y z x d : D) : agD env op y z x d S = agR env y z S (augD op x d) := rfl
theorem agX_eq (op : BO) (e : E) (y z x : D) : agX F env op e y z x S = (evE F e env S).bnd (agD env op y z x) := rfl
theorem agI_eq (op : BO) (e : E) (y z : D) : agI F env op e y z S = (idxM y z S).bnd (agX F env op e y z) := rfl
theorem agO_eq (i : E) (op : BO) (e : E) (y : D) : agO F env i op e y S = (evE F i env S).bnd (agI F env op e y) := rfl
theorem idxM_loc (l : Nat) (b : D) : idxM (.loc l) b S = idxD (.loc l) b S := rfl
theorem augD_add (a b : Int) : augD .add (.int a) (.int b) = some (.int (a + b)) := rfl
theorem augD_sub (a b : Int) : augD .sub (.int a) (.int b) = some (.int (a - b)) := rfl
theorem xS_augS (o i : E) (op : BO) (e : E) : exS F (.augS o i op e) env S = (evE F o env S).bnd (agO F env i op e) := by
  rw [exS]
  all_goals first
    | rfl
    | (congr 1; done)
    | (congr 1
       funext y S1
       unfold agO
       congr 1
       funext z S2
       unfold agI
       congr 1
       funext x S3
       unfold agX
       congr 1
       funext d S4
       unfold agD
       cases augD op x d <;> rfl)
theorem xS_expr (e : E) : exS F (.expr e) env S = (evE F e env S).bnd (nxtK env) := by rw [exS]; rfl
def retK (d : D) (S1 : Store) : Res (Flow × Env) := .ok (.ret d, env) S1
theorem retK_eq (d : D) : retK env d S = .ok (.ret d, env) S := rfl
theorem xS_ret (e : E) : exS F (.ret e) env S = (evE F e env S).bnd (retK env) := by rw [exS]; rfl
theorem xS_retN : exS F .retN env S = .ok (.ret .non, env) S := by rw [exS]
def brS (a b : Ss) (k : Bool) (S1 : Store) : Res (Flow × Env) := if k = true then exSs F a env S1 else exSs F b env S1
theorem xS_ite (c : E) (a b : Ss) : exS F (.ite c a b) env S = (truR (evE F c env S)).bnd (brS F env a b) := by rw [exS]; rfl
theorem brS_t (a b : Ss) : brS F env a b true S = exSs F a env S := rfl
theorem brS_f (a b : Ss) : brS F env a b false S = exSs F b env S := rfl
def whS (c : E) (b : Ss) (env : Env) (S : Store) : Res (Flow × Env) := whL (fun e s => truR (evE F c e s)) (fun e s => exSs F b e s) env S
theorem xS_wh (c : E) (b : Ss) : exS F (.wh c b) env S = whS F c b env S := by rw [exS]; rfl
def whK (c : E) (b : Ss) (r : Flow × Env) (S2 : Store) : Res (Flow × Env) := match r.1 with
        | .next => whS F c b r.2 S2
        | .cont => whS F c b r.2 S2
        | .brk => .ok (.next, r.2) S2
        | .ret d => .ok (.ret d, r.2) S2
def whB (c : E) (b : Ss) (k : Bool) (S1 : Store) : Res (Flow × Env) := if k = true then (exSs F b env S1).bnd (whK F c b) else .ok (.next, env) S1
theorem whS_eq (c : E) (b : Ss) : whS F c b env S = (truR (evE F c env S)).bnd (whB F env c b) := by
  unfold whS
  rw [whL_eq]
  rfl
theorem whB_t (c : E) (b : Ss) : whB F env c b true S = (exSs F b env S).bnd (whK F c b) := rfl
theorem whB_f (c : E) (b : Ss) : whB F env c b false S = .ok (.next, env) S := rfl
theorem whK_n (c : E) (b : Ss) : whK F c b (.next, env) S = whS F c b env S := rfl
theorem whK_c (c : E) (b : Ss) : whK F c b (.cont, env) S = whS F c b env S := rfl
theorem whK_b (c : E) (b : Ss) : whK F c b (.brk, env) S = .ok (.next, env) S := rfl
theorem whK_r (c : E) (b : Ss) (d : D) : whK F c b (.ret d, env) S = .ok (.ret d, env) S := rfl
def foS (t : Tg) (b : Ss) (w : Walk) (items : List D) (env : Env) (S : Store) : Res (Flow × Env) := forL w t (fun e s => exSs F b e s) items env S
theorem xS_fo (t : Tg) (it : It) (b : Ss) : exS F (.fo t it b) env S = (evIt F it env S).bnd fun w S1 => foS F t b w w.items env S1 := by rw [exS]; rfl
def foK (t : Tg) (b : Ss) (w : Walk) (items : List D) (r : Flow × Env) (S2 : Store) : Res (Flow × Env) := match r.1 with
        | .next => foS F t b w items r.2 S2
        | .cont => foS F t b w items r.2 S2
        | .brk => .ok (.next, r.2) S2
        | .ret d => .ok (.ret d, r.2) S2
def foT (t : Tg) (b : Ss) (w : Walk) (items : List D) (S : Store) : Option Env → Res (Flow × Env)
  | some env1 => (exSs F b env1 S).bnd (foK F t b w items)
  | none => .bad
theorem fo_nil (t : Tg) (b : Ss) (w : Walk) (h : w.here S) : foS F t b w [] env S = .ok (.next, env) S := by unfold foS forL; rw [if_pos h]
theorem fo_cons (t : Tg) (b : Ss) (w : Walk) (d : D) (ds : List D) (h : w.here S) : foS F t b w (d :: ds) env S = foT F t b w ds S (asgT t d S env) := by
  unfold foS forL
  rw [if_pos h]
  cases asgT t d S env <;> rfl
theorem foT_some (t : Tg) (b : Ss) (w : Walk) (ds : List D) : foT F t b w ds S (some env) = (exSs F b env S).bnd (foK F t b w ds) := rfl
theorem foK_n (t : Tg) (b : Ss) (w : Walk) (ds : List D) : foK F t b w ds (.next, env) S = foS F t b w ds env S := rfl
theorem foK_c (t : Tg) (b : Ss) (w : Walk) (ds : List D) : foK F t b w ds (.cont, env) S = foS F t b w ds env S := rfl
theorem foK_b (t : Tg) (b : Ss) (w : Walk) (ds : List D) : foK F t b w ds (.brk, env) S = .ok (.next, env) S := rfl
theorem foK_r (t : Tg) (b : Ss) (w : Walk) (ds : List D) (d : D) : foK F t b w ds (.ret d, env) S = .ok (.ret d, env) S := rfl
theorem here_none (ds : List D) : (⟨ds, none⟩ : Walk).here S := True.intro
theorem here_some {ds : List D} {l : Nat} (h : S[l]? = some (.lst ds)) : (⟨ds, some l⟩ : Walk).here S := h
theorem xS_brk : exS F .brk env S = .ok (.brk, env) S := by rw [exS]
theorem xS_cont : exS F .cont env S = .ok (.cont, env) S := by rw [exS]
theorem xS_pass : exS F .pass env S = .ok (.next, env) S := by rw [exS]
theorem xS_callx (g : Nat) (es : Es) : exS F (.callx g es) env S = (evEs F es env S).bnd fun ds S1 => (F g ds S1).bnd (flX env) := by rw [exS]
theorem flX_non : flX env .non S = .ok (.next, env) S := rfl
theorem flX_tup (ds : List D) : flX env (.tup ds) S = .ok (.ret (.tup ds), env) S := rfl
theorem xS_tryx (b : Ss) : exS F (.tryx b) env S = exSs F b env S := by rw [exS]
theorem xS_retx (z t : E) (g : Nat) (ks : Es) (perm : List Nat) (es : Es) : exS F (.retx z t g ks perm es) env S = (evE F z env S).bnd fun x S1 => (truR (evE F t env S1)).bnd fun b S2 => (if b = true then (evEs F ks env S2).bnd fun ds S3 => .ok (permD perm ds) S3 else evEs F es env S2).bnd fun ds S3 => (F g ds S3).bnd (rtX x env) := by rw [exS]
theorem rtX_non (x : D) : rtX x env .non S = .ok (.ret (.tup [x, .non]), env) S := rfl
theorem rtX_tup (x : D) {y : Str} {i : Int} (h : BpSz y i) : rtX x env (.tup [.str y, .int i]) S = .ok (.ret (.tup [.str y, .int i]), env) S := if_pos ⟨y, i, rfl, h⟩
def sqK (ss : Ss) (r : Flow × Env) (S1 : Store) : Res (Flow × Env) := match r.1 with
    | .next => exSs F ss r.2 S1
    | f => .ok (f, r.2) S1
theorem xSs_nil : exSs F .nil env S = .ok (.next, env) S := by rw [exSs]
theorem xSs_cons (s : St) (ss : Ss) : exSs F (.cons s ss) env S = (exS F s env S).bnd (sqK F ss) := by rw [exSs]; rfl
theorem sqK_n (ss : Ss) : sqK F ss (.next, env) S = exSs F ss env S := rfl
theorem sqK_r (ss : Ss) (d : D) : sqK F ss (.ret d, env) S = .ok (.ret d, env) S := rfl
theorem sqK_b (ss : Ss) : sqK F ss (.brk, env) S = .ok (.brk, env) S := rfl
theorem sqK_c (ss : Ss) : sqK F ss (.cont, env) S = .ok (.cont, env) S := rfl

/-! ### list comprehensions -/
def lcB (t : Tg) (own : List Nat) (cs : Es) (elt : E) (w : Walk) (items acc : List D) (env1 : Env) (b : Bool) (S1 : Store) : Res (List D) :=
  if b = true then (evE F elt env1 S1).bnd fun x S2 => if acc.length < LINE then lcS F env t own cs elt w items (acc ++ [x]) S2 else .bad
  else lcS F env t own cs elt w items acc S1
def lcT (t : Tg) (own : List Nat) (cs : Es) (elt : E) (w : Walk) (items acc : List D) (S : Store) : Option Env → Res (List D)
  | some env1 => (evTs F cs env1 S).bnd (lcB F env t own cs elt w items acc env1)
  | none => .bad
theorem lc_nil (t : Tg) (own : List Nat) (cs : Es) (elt : E) (w : Walk) (acc : List D) (h : w.here S) : lcS F env t own cs elt w [] acc S = .ok acc S := by unfold lcS lcL; rw [if_pos h]
theorem lc_cons (t : Tg) (own : List Nat) (cs : Es) (elt : E) (w : Walk) (d : D) (ds acc : List D) (h : w.here S) : lcS F env t own cs elt w (d :: ds) acc S = lcT F env t own cs elt w ds acc S (asgT t d S (wipeE env own)) := by
  unfold lcS lcL
  rw [if_pos h]
  cases asgT t d S (wipeE env own) <;> rfl

def l2B (t : Tg) (own : List Nat) (cs : Es) (t1 : Tg) (it1 : It) (cs1 : Es) (own1 : List Nat) (elt : E) (w : Walk) (items acc : List D) (env1 : Env) (b : Bool) (S1 : Store) : Res (List D) :=
  if b = true then (l2I F t1 it1 cs1 own1 elt env1 acc S1).bnd fun acc1 S2 => l2S F env t own cs t1 it1 cs1 own1 elt w items acc1 S2
  else l2S F env t own cs t1 it1 cs1 own1 elt w items acc S1
def l2T (t : Tg) (own : List Nat) (cs : Es) (t1 : Tg) (it1 : It) (cs1 : Es) (own1 : List Nat) (elt : E) (w : Walk) (items acc : List D) (S : Store) : Option Env → Res (List D)
  | some env1 => (evTs F cs env1 S).bnd (l2B F env t own cs t1 it1 cs1 own1 elt w items acc env1)
  | none => .bad
theorem l2_nil (t : Tg) (own : List Nat) (cs : Es) (t1 : Tg) (it1 : It) (cs1 : Es) (own1 : List Nat) (elt : E) (w : Walk) (acc : List D) (h : w.here S) : l2S F env t own cs t1 it1 cs1 own1 elt w [] acc S = .ok acc S := by unfold l2S lc2L; rw [if_pos h]
theorem l2_cons (t : Tg) (own : List Nat) (cs : Es) (t1 : Tg) (it1 : It) (cs1 : Es) (own1 : List Nat) (elt : E) (w : Walk) (d : D) (ds acc : List D) (h : w.here S) :
    l2S F env t own cs t1 it1 cs1 own1 elt w (d :: ds) acc S = l2T F env t own cs t1 it1 cs1 own1 elt w ds acc S (asgT t d S (wipeE env own)) := by
  unfold l2S lc2L
  rw [if_pos h]
  cases asgT t d S (wipeE env own) <;> rfl

/-! ### values -/
theorem new_eq (o : SO) : new S o = .ok (.loc S.length) (S ++ [o]) := rfl
theorem b_add (i j : Int) : binD .add (.int i) (.int j) S = .ok (.int (i + j)) S := rfl
theorem b_sub (i j : Int) : binD .sub (.int i) (.int j) S = .ok (.int (i - j)) S := rfl
theorem b_mul {i j : Int} (h : CMulW i j ∨ CMul i j) : binD .mul (.int i) (.int j) S = .ok (.int (i * j)) S := by
  show (if CMulW i j ∨ CMul i j then _ else _) = _
  rw [if_pos h]
theorem b_mulL {i j : Int} (h : -(2 ^ 64) < i ∧ i < 2 ^ 64) : binD .mul (.int i) (.int j) S = .ok (.int (i * j)) S := b_mul S (.inr (.inl h))
theorem b_mulR {i j : Int} (h : -(2 ^ 64) < j ∧ j < 2 ^ 64) : binD .mul (.int i) (.int j) S = .ok (.int (i * j)) S := b_mul S (.inr (.inr h))
theorem b_fdiv {i j : Int} (h : CDivW i j) : binD .fdiv (.int i) (.int j) S = .ok (.int (i / j)) S := by
  show (if CDivW i j then _ else _) = _
  rw [if_pos h]
theorem b_mod {i j : Int} (h : 0 < j) : binD .mod (.int i) (.int j) S = .ok (.int (i % j)) S := by
  show (if 0 < j then _ else _) = _
  rw [if_pos h]
theorem b_pow {i j : Int} (h : CPow i j) : binD .pow (.int i) (.int j) S = .ok (.int (i ^ j.toNat)) S := by
  show (if CPow i j then _ else _) = _
  rw [if_pos h]
theorem b_addT {xs ys : List D} (h : xs.length + ys.length ≤ LINE) : binD .add (.tup xs) (.tup ys) S = .ok (.tup (xs ++ ys)) S := by
  show (if xs.length + ys.length ≤ LINE then _ else _) = _
  rw [if_pos h]
def addL (S : Store) : Option SO → Option SO → Res D
  | some (.lst xs), some (.lst ys) => if xs.length + ys.length ≤ LINE then new S (.lst (xs ++ ys)) else .bad
  | _, _ => .bad
theorem b_addL (l m : Nat) : binD .add (.loc l) (.loc m) S = addL S S[l]? S[m]? := by
  unfold binD addL
  cases h : S[l]? with
  | none => simp only [h]
  | some o => cases o; cases h2 : S[m]? with
    | none => simp only [h, h2]
    | some o => cases o; simp only [h, h2]
theorem addL_ok {xs ys : List D} (h : xs.length + ys.length ≤ LINE) : addL S (some (.lst xs)) (some (.lst ys)) = .ok (.loc S.length) (S ++ [.lst (xs ++ ys)]) := by
  show (if xs.length + ys.length ≤ LINE then _ else _) = _
  rw [if_pos h]
  rfl
theorem b_repT {xs : List D} {k : Int} (h : xs ≠ [] ∧ 0 ≤ k ∧ k ≤ 1000 ∧ xs.length ≤ 1000) : binD .mul (.tup xs) (.int k) S = .ok (.tup (List.replicate k.toNat xs).flatten) S := by
  show (if xs ≠ [] ∧ 0 ≤ k ∧ k ≤ 1000 ∧ xs.length ≤ 1000 then _ else _) = _
  rw [if_pos h]
theorem k_lt (i j : Int) : cmpD .lt (.int i) (.int j) S = some (decide (i < j)) := rfl
theorem k_le (i j : Int) : cmpD .le (.int i) (.int j) S = some (decide (i ≤ j)) := rfl
theorem k_gt (i j : Int) : cmpD .gt (.int i) (.int j) S = some (decide (j < i)) := rfl
theorem k_ge (i j : Int) : cmpD .ge (.int i) (.int j) S = some (decide (j ≤ i)) := rfl
theorem k_eq (a b : D) : cmpD .eq a b S = eqD a b S := by cases a <;> cases b <;> rfl
theorem k_ne (a b : D) : cmpD .ne a b S = (eqD a b S).map (!·) := by cases a <;> cases b <;> rfl
theorem k_isN (a : D) : cmpD .isN a .non S = some (isNonD a) := by cases a <;> rfl
theorem k_notN (a : D) : cmpD .notN a .non S = some (!isNonD a) := by cases a <;> rfl
theorem k_in (a b : D) : cmpD .isin a b S = inD a b S := by cases a <;> cases b <;> rfl
theorem k_nin (a b : D) : cmpD .notin a b S = (inD a b S).map (!·) := by cases a <;> cases b <;> rfl
theorem tr_str {x : Str} (h : x.length ≤ LINE) : truR (.ok (.str x) S) = .ok ((x.length : Int) != 0) S := by
  unfold truR truD
  rw [bnd_ok]
  dsimp only
  rw [if_pos h]
theorem q_int (i j : Int) : eqD (.int i) (.int j) S = some (decide (i = j)) := rfl
theorem q_bl (i j : Bool) : eqD (.bl i) (.bl j) S = some (decide (i = j)) := rfl
theorem q_str (i j : Str) : eqD (.str i) (.str j) S = some (decide (i = j)) := rfl
theorem ofB_some (b : Bool) : ofB (some b) S = .ok (.bl b) S := rfl
theorem tr_bl (b : Bool) : truR (.ok (.bl b) S) = .ok b S := rfl
theorem tr_int (i : Int) : truR (.ok (.int i) S) = .ok (i != 0) S := rfl
theorem tr_non : truR (.ok .non S) = .ok false S := rfl
theorem tr_tup (ds : List D) : truR (.ok (.tup ds) S) = .ok (!ds.isEmpty) S := rfl
def trK (S : Store) : Option SO → Res Bool
  | some (.lst ds) => .ok (!ds.isEmpty) S
  | none => .bad
theorem tr_loc (l : Nat) : truR (.ok (.loc l) S) = trK S S[l]? := by
  unfold truR truD trK
  rw [bnd_ok]
  cases h : S[l]? with
  | none => simp only [h]
  | some o => cases o; simp only [h]
theorem trK_ok (ds : List D) : trK S (some (.lst ds)) = .ok (!ds.isEmpty) S := rfl
theorem td_bl (b : Bool) : truD (.bl b) S = some b := rfl
theorem td_int (i : Int) : truD (.int i) S = some (i != 0) := rfl
theorem td_tup (ds : List D) : truD (.tup ds) S = some (!ds.isEmpty) := rfl
theorem okV_some (d : D) : okV (some d) S = .ok d S := rfl
theorem i_tup (ds : List D) (i : Int) : idxD (.tup ds) (.int i) S = okV (atI ds i) S := rfl
theorem i_rls (ds : List D) (i : Int) : idxD (.rls ds) (.int i) S = okV (atI ds i) S := rfl
def idxL (S : Store) (i : Int) : Option SO → Res D
  | some (.lst ds) => okV (atI ds i) S
  | none => .bad
theorem i_loc (l : Nat) (i : Int) : idxD (.loc l) (.int i) S = idxL S i S[l]? := by
  unfold idxD seqD idxL
  cases h : S[l]? with
  | none => simp only [h]
  | some o => cases o; simp only [h]
theorem idxL_ok (i : Int) (ds : List D) : idxL S i (some (.lst ds)) = okV (atI ds i) S := rfl
theorem tupK_ok {ds : List D} (h : ds.length ≤ LINE) : tupK ds S = .ok (.tup ds) S := by unfold tupK; rw [if_pos h]
theorem lstK_ok {ds : List D} (h : ds.length ≤ LINE) : lstK ds S = .ok (.loc S.length) (S ++ [.lst ds]) := by unfold lstK; rw [if_pos h]; rfl
theorem negK_int (i : Int) : negK (.int i) S = .ok (.int (-i)) S := rfl
theorem p_abs (i : Int) : primD .abs [.int i] S = .ok (.int i.natAbs) S := by
  show Res.ok (D.int (if i < 0 then -i else i)) S = _
  congr 2
  omega
theorem p_int (i : Int) : primD .int [.int i] S = .ok (.int i) S := rfl
theorem p_intB (b : Bool) : primD .int [.bl b] S = .ok (.int (if b then 1 else 0)) S := rfl
theorem p_lenT (ds : List D) : primD .len [.tup ds] S = .ok (.int ds.length) S := rfl
theorem p_lenR (ds : List D) : primD .len [.rls ds] S = .ok (.int ds.length) S := rfl
def lenL (S : Store) : Option SO → Res D
  | some (.lst ds) => .ok (.int ds.length) S
  | none => .bad
theorem p_lenL (l : Nat) : primD .len [.loc l] S = lenL S S[l]? := by
  show pLen [.loc l] S = _
  unfold pLen seqD lenL
  cases h : S[l]? with
  | none => simp only [h]
  | some o => cases o; simp only [h]
theorem lenL_ok (ds : List D) : lenL S (some (.lst ds)) = .ok (.int ds.length) S := rfl
def srtI (S : Store) : Option (List Int) → Res D
  | some ns => new S (.lst ((sortI ns).map .int))
  | none => .bad
def smI (S : Store) : Option (List Int) → Res D
  | some ns => .ok (.int ns.sum) S
  | none => .bad
def intsL : Option SO → Option (List Int)
  | some (.lst ds) => allInt ds
  | none => none
theorem intsL_eq (l : Nat) : intsD (.loc l) S = intsL S[l]? := by
  show (match S[l]? with | some (.lst ds) => allInt ds | none => none) = _
  cases S[l]? with
  | none => rfl
  | some o => cases o; rfl
theorem p_sorted (l : Nat) : primD .sorted [.loc l] S = srtI S (intsL S[l]?) := by
  show pSorted [.loc l] S = _
  rw [← intsL_eq]
  unfold pSorted srtI
  cases h : intsD (.loc l) S <;> simp [h]
theorem p_sum (l : Nat) : primD .sum [.loc l] S = smI S (intsL S[l]?) := by
  show pSum [.loc l] S = _
  rw [← intsL_eq]
  unfold pSum smI
  cases h : intsD (.loc l) S <;> simp [h]
theorem intsL_ok (ds : List D) : intsL (some (.lst ds)) = allInt ds := rfl
theorem allInt_map : ∀ ns : List Int, allInt (ns.map D.int) = some ns
  | [] => rfl
  | n :: ns => by
    rw [List.map_cons]
    unfold allInt
    rw [allInt_map ns]
    rfl
theorem srtI_ok (ns : List Int) : srtI S (some ns) = new S (.lst ((sortI ns).map .int)) := rfl
theorem smI_ok (ns : List Int) : smI S (some ns) = .ok (.int ns.sum) S := rfl
theorem p_max (i j : Int) : primD .max [.int i, .int j] S = .ok (.int (max i j)) S := by
  show Res.ok (D.int (if j > i then j else i)) S = _
  congr 2
  omega
theorem p_min (i j : Int) : primD .min [.int i, .int j] S = .ok (.int (min i j)) S := by
  show Res.ok (D.int (if j < i then j else i)) S = _
  congr 2
  omega
theorem p_tupT (ds : List D) : primD .tuple [.tup ds] S = .ok (.tup ds) S := rfl
def tupL (S : Store) : Option SO → Res D
  | some (.lst ds) => .ok (.tup ds) S
  | none => .bad
theorem p_tupL (l : Nat) : primD .tuple [.loc l] S = tupL S S[l]? := by
  show pTuple [.loc l] S = _
  unfold pTuple seqD tupL
  cases h : S[l]? with
  | none => simp only [h]
  | some o => cases o; simp only [h]
theorem tupL_ok (ds : List D) : tupL S (some (.lst ds)) = .ok (.tup ds) S := rfl
theorem p_lstT (ds : List D) : primD .list [.tup ds] S = .ok (.loc S.length) (S ++ [.lst ds]) := rfl
def lstL (S : Store) : Option SO → Res D
  | some (.lst ds) => .ok (.loc S.length) (S ++ [.lst ds])
  | none => .bad
theorem p_lstL (l : Nat) : primD .list [.loc l] S = lstL S S[l]? := by
  show pList [.loc l] S = _
  unfold pList seqD lstL
  cases h : S[l]? with
  | none => simp only [h]
  | some o => cases o; simp only [h]; rfl
theorem lstL_ok (ds : List D) : lstL S (some (.lst ds)) = .ok (.loc S.length) (S ++ [.lst ds]) := rfl
theorem isD_ok (t : Ty) (d : D) : ofB (isD t d) S = .ok (.bl (isK t (kdD d))) S := rfl
def appL (S : Store) (l : Nat) (d : D) : Option SO → Res D
  | some (.lst xs) => if xs.length < LINE then .ok .non (S.set l (.lst (xs ++ [d]))) else .bad
  | none => .bad
theorem m_app (l : Nat) (d : D) : methD .append (.loc l) [d] S = appL S l d S[l]? := by
  show mApp (.loc l) [d] S = _
  unfold mApp appL
  cases h : S[l]? with
  | none => simp only [h]
  | some o => cases o; simp only [h]
theorem appL_ok {xs : List D} (l : Nat) (d : D) (hl : xs.length < LINE) : appL S l d (some (.lst xs)) = .ok .non (S.set l (.lst (xs ++ [d]))) := by
  show (if xs.length < LINE then _ else _) = _
  rw [if_pos hl]
def popL (S : Store) (l : Nat) : Option SO → Res D
  | some (.lst xs) => popK xs[xs.length - 1]? (S.set l (.lst xs.dropLast))
  | none => .bad
where popK : Option D → Store → Res D
  | some d, S => .ok d S
  | none, _ => .bad
theorem m_pop (l : Nat) : methD .pop (.loc l) [] S = popL S l S[l]? := by
  show mPop (.loc l) [] S = _
  unfold mPop popL
  cases h : S[l]? with
  | none => simp only [h]
  | some o =>
    cases o with
    | lst xs =>
      simp only [h]
      cases h2 : xs[xs.length - 1]? <;> simp only [popL.popK]
theorem popL_ok (l : Nat) (xs : List D) (d : D) : popL S l (some (.lst (xs ++ [d]))) = .ok d (S.set l (.lst xs)) := by
  unfold popL
  simp [popL.popK]
def revL (S : Store) (l : Nat) : Option SO → Res D
  | some (.lst xs) => .ok .non (S.set l (.lst xs.reverse))
  | none => .bad
theorem m_rev (l : Nat) : methD .reverse (.loc l) [] S = revL S l S[l]? := by
  show mRev (.loc l) [] S = _
  unfold mRev revL
  cases h : S[l]? with
  | none => simp only [h]
  | some o => cases o; simp only [h]
theorem revL_ok (l : Nat) (xs : List D) : revL S l (some (.lst xs)) = .ok .non (S.set l (.lst xs.reverse)) := rfl
def recvL : Option SO → Bool
  | some (.lst _) => true
  | none => false
theorem recv_ok (m : Mt) (l : Nat) : recvOk m (.loc l) S = recvL S[l]? := by
  unfold recvOk recvL
  cases h : S[l]? with
  | none => simp only [h]
  | some o => cases o; simp only [h]
theorem recvL_ok (xs : List D) : recvL (some (.lst xs)) = true := rfl
def setL (S : Store) (l : Nat) (k : Int) (v : D) : Option SO → Res Unit
  | some (.lst xs) => setI xs (ixN xs.length k)
  | none => .bad
where setI (xs : List D) : Option Nat → Res Unit
  | some j => .ok () (S.set l (.lst (xs.set j v)))
  | none => .bad
theorem set_loc (l : Nat) (k : Int) (v : D) : setD (.loc l) (.int k) v S = setL S l k v S[l]? := by
  unfold setD setL
  cases h : S[l]? with
  | none => simp only [h]
  | some o =>
    cases o with
    | lst xs =>
      simp only [h]
      cases h2 : ixN xs.length k <;> simp only [setL.setI]
theorem setL_ok {l : Nat} {k : Int} {v : D} {xs : List D} : setL S l k v (some (.lst xs)) = setL.setI S l v xs (ixN xs.length k) := rfl
theorem setI_ok (l : Nat) (v : D) (xs : List D) (j : Nat) : setL.setI S l v xs (some j) = .ok () (S.set l (.lst (xs.set j v))) := rfl
end
end
end SX
namespace SX
open PySem PySem.Spec PyProof.Rows L2
noncomputable section
open Classical
local macro_rules | `(tactic| walk_at "ev") => `(tactic| simp (config := { maxSteps := 3000000 }) (disch := first | assumption | omega | exact ⟨by omega, by omega⟩ | exact ⟨⟨by omega, by omega⟩, ⟨by omega, by omega⟩⟩ | exact Nat.le_of_ble_eq_true rfl | decide) only [bnd_ok, bnd_bad, binJ_eq, binK_eq, notK_eq, cmpJ_eq, cmpK_eq, idxJ_eq, idxK_eq, calJ_eq, clkJ_eq, clkK_eq, priJ_eq, isiJ_eq, metJ_eq, metI_t, metK_eq, lcJ_eq, lcK_eq, conJ_eq, conK_eq, andJ_eq, orJ_eq, rg2J_eq, nxtK_eq, setI1_eq, setI2_eq, setI3_eq, retK_eq,  vE_var, varK_ok, vE_int, vE_bl, vE_non, vE_str, vE_tup, vE_lst, vE_bin, vE_neg, vE_not, vE_and, vE_or, vE_cmp, vE_ite, brE_t, brE_f, vE_idx, vE_slc, vE_call, vE_callk, vE_prim, vE_isin, vE_meth, vE_lc, vE_gcon, toD_int, toD_strs, vE_chain, chnI_eq, chnK_eq, chnJ_t, chnJ_f, vE_tupG, tgJ_eq, tgK_eq, vE_qual, qlK_eq, vE_sumG, smK_eq, vE_lc2, l2K_eq, vEs_nil, vEs_cons, vA_one, vA_cons, vO_one, vO_cons, andK_t, andK_f, orK_t, orK_f, vT_nil, vT_cons, vI_seq, seqK_tup, seqK_rls, seqK_loc, seqL_ok, vI_range1, rg1_int, vI_range2, rg2_int,
  xS_asg, asgK_nm, asgT_nm, asgT_tp2, asgT_tp3, asgK_tp2, asgK_tp3, xS_par, parK_2, parK_3, xS_setS, xS_aug, augV_ok, augK_add, augK_sub, xS_augS, agR_some, agD_eq, agX_eq, agI_eq, agO_eq, idxM_loc, augD_add, augD_sub, xS_expr, xS_ret, xS_retN, xS_ite, brS_t, brS_f, xS_wh, whB_t, whB_f, whK_n, whK_c, whK_b, whK_r, xS_fo, foT_some, foK_n, foK_c, foK_b, foK_r, xS_brk, xS_cont, xS_pass, xSs_nil, xSs_cons, sqK_n, sqK_r, sqK_b, sqK_c,
  b_add, b_sub, b_mul, b_mulL, b_mulR, b_fdiv, b_mod, b_pow, b_addT, b_addL, addL_ok, b_repT, k_lt, k_le, k_gt, k_ge, k_eq, k_ne, k_isN, k_notN, k_in, k_nin, tr_str, q_int, q_bl, q_str, ofB_some, Option.map_some, tr_bl, tr_int, tr_non, tr_tup, tr_loc, trK_ok, td_bl, td_int, td_tup, i_tup, i_rls, i_loc, idxL_ok, okV_some, at0, at1, at2, at3, at_m1, tupK_ok, lstK_ok, negK_int, p_abs, p_int, p_intB, p_lenT, p_lenR, p_lenL, lenL_ok, p_max, p_min, p_tupT, p_tupL, tupL_ok, p_lstT, p_lstL, lstL_ok, isD_ok, m_app, appL_ok, m_pop, popL_ok, m_rev, revL_ok, recv_ok, recvL_ok, set_loc, setL_ok, setI_ok, new_eq, Bool.not_true, Bool.not_false, if_true, eq_self, decide_true, decide_false,
  List.set_cons_zero, List.set_cons_succ, List.getElem?_cons_zero, List.getElem?_cons_succ, List.length_cons, List.length_nil, Option.some.injEq])
local macro_rules | `(tactic| walk_at "ev*") => `(tactic| simp (config := { maxSteps := 3000000 }) (disch := first | assumption | omega | exact ⟨by omega, by omega⟩ | exact ⟨⟨by omega, by omega⟩, ⟨by omega, by omega⟩⟩ | exact Nat.le_of_ble_eq_true rfl | decide) only [bnd_ok, bnd_bad, binJ_eq, binK_eq, notK_eq, cmpJ_eq, cmpK_eq, idxJ_eq, idxK_eq, calJ_eq, clkJ_eq, clkK_eq, priJ_eq, isiJ_eq, metJ_eq, metI_t, metK_eq, lcJ_eq, lcK_eq, conJ_eq, conK_eq, andJ_eq, orJ_eq, rg2J_eq, nxtK_eq, setI1_eq, setI2_eq, setI3_eq, retK_eq,  vE_var, varK_ok, vE_int, vE_bl, vE_non, vE_str, vE_tup, vE_lst, vE_bin, vE_neg, vE_not, vE_and, vE_or, vE_cmp, vE_ite, brE_t, brE_f, vE_idx, vE_slc, vE_call, vE_callk, vE_prim, vE_isin, vE_meth, vE_lc, vE_gcon, toD_int, toD_strs, vE_chain, chnI_eq, chnK_eq, chnJ_t, chnJ_f, vE_tupG, tgJ_eq, tgK_eq, vE_qual, qlK_eq, vE_sumG, smK_eq, vE_lc2, l2K_eq, vEs_nil, vEs_cons, vA_one, vA_cons, vO_one, vO_cons, andK_t, andK_f, orK_t, orK_f, vT_nil, vT_cons, vI_seq, seqK_tup, seqK_rls, seqK_loc, seqL_ok, vI_range1, rg1_int, vI_range2, rg2_int,
  xS_asg, asgK_nm, asgT_nm, asgT_tp2, asgT_tp3, asgK_tp2, asgK_tp3, xS_par, parK_2, parK_3, xS_setS, xS_aug, augV_ok, augK_add, augK_sub, xS_augS, agR_some, agD_eq, agX_eq, agI_eq, agO_eq, idxM_loc, augD_add, augD_sub, xS_expr, xS_ret, xS_retN, xS_ite, brS_t, brS_f, xS_wh, whB_t, whB_f, whK_n, whK_c, whK_b, whK_r, xS_fo, foT_some, foK_n, foK_c, foK_b, foK_r, xS_brk, xS_cont, xS_pass, xSs_nil, xSs_cons, sqK_n, sqK_r, sqK_b, sqK_c,
  b_add, b_sub, b_mul, b_mulL, b_mulR, b_fdiv, b_mod, b_pow, b_addT, b_addL, addL_ok, b_repT, k_lt, k_le, k_gt, k_ge, k_eq, k_ne, k_isN, k_notN, k_in, k_nin, tr_str, q_int, q_bl, q_str, ofB_some, Option.map_some, tr_bl, tr_int, tr_non, tr_tup, tr_loc, trK_ok, td_bl, td_int, td_tup, i_tup, i_rls, i_loc, idxL_ok, okV_some, at0, at1, at2, at3, at_m1, tupK_ok, lstK_ok, negK_int, p_abs, p_int, p_intB, p_lenT, p_lenR, p_lenL, lenL_ok, p_max, p_min, p_tupT, p_tupL, tupL_ok, p_lstT, p_lstL, lstL_ok, isD_ok, m_app, appL_ok, m_pop, popL_ok, m_rev, revL_ok, recv_ok, recvL_ok, set_loc, setL_ok, setI_ok, new_eq, Bool.not_true, Bool.not_false, if_true, eq_self, decide_true, decide_false,
  List.set_cons_zero, List.set_cons_succ, List.getElem?_cons_zero, List.getElem?_cons_succ, List.length_cons, List.length_nil, Option.some.injEq, *])
local macro_rules | `(tactic| walk_at "evs") => `(tactic| simp (config := { maxSteps := 3000000 }) (disch := first | assumption | omega | exact ⟨by omega, by omega⟩ | exact ⟨⟨by omega, by omega⟩, ⟨by omega, by omega⟩⟩ | exact Nat.le_of_ble_eq_true rfl | decide) only [bnd_ok, bnd_bad, binJ_eq, binK_eq, notK_eq, cmpJ_eq, cmpK_eq, idxJ_eq, idxK_eq, calJ_eq, clkJ_eq, clkK_eq, priJ_eq, isiJ_eq, metJ_eq, metI_t, metK_eq, lcJ_eq, lcK_eq, conJ_eq, conK_eq, andJ_eq, orJ_eq, rg2J_eq, nxtK_eq, setI1_eq, setI2_eq, setI3_eq, retK_eq,  vE_var, varK_ok, vE_int, vE_bl, vE_non, vE_str, vE_tup, vE_lst, vE_bin, vE_neg, vE_not, vE_and, vE_or, vE_cmp, vE_ite, brE_t, brE_f, vE_idx, vE_slc, vE_call, vE_callk, vE_prim, vE_isin, vE_meth, vE_lc, vE_gcon, toD_int, toD_strs, vE_chain, chnI_eq, chnK_eq, chnJ_t, chnJ_f, vE_tupG, tgJ_eq, tgK_eq, vE_qual, qlK_eq, vE_sumG, smK_eq, vE_lc2, l2K_eq, vEs_nil, vEs_cons, vA_one, vA_cons, vO_one, vO_cons, andK_t, andK_f, orK_t, orK_f, vT_nil, vT_cons, vI_seq, seqK_tup, seqK_rls, seqK_loc, seqL_ok, vI_range1, rg1_int, vI_range2, rg2_int,
  xS_asg, asgK_nm, asgT_nm, asgT_tp2, asgT_tp3, asgK_tp2, asgK_tp3, xS_par, parK_2, parK_3, xS_setS, xS_aug, augV_ok, augK_add, augK_sub, xS_augS, agR_some, agD_eq, agX_eq, agI_eq, agO_eq, idxM_loc, augD_add, augD_sub, xS_expr, xS_ret, xS_retN, xS_ite, brS_t, brS_f, xS_wh, whB_t, whB_f, whK_n, whK_c, whK_b, whK_r, xS_fo, foT_some, foK_n, foK_c, foK_b, foK_r, xS_brk, xS_cont, xS_pass, xSs_nil, xSs_cons, sqK_n, sqK_r, sqK_b, sqK_c,
  b_add, b_sub, b_mul, b_mulL, b_mulR, b_fdiv, b_mod, b_pow, b_addT, b_addL, addL_ok, b_repT, k_lt, k_le, k_gt, k_ge, k_eq, k_ne, k_isN, k_notN, k_in, k_nin, tr_str, q_int, q_bl, q_str, ofB_some, Option.map_some, tr_bl, tr_int, tr_non, tr_tup, tr_loc, trK_ok, td_bl, td_int, td_tup, i_tup, i_rls, i_loc, idxL_ok, okV_some, at0, at1, at2, at3, at_m1, tupK_ok, lstK_ok, negK_int, p_abs, p_int, p_intB, p_lenT, p_lenR, p_lenL, lenL_ok, p_max, p_min, p_tupT, p_tupL, tupL_ok, p_lstT, p_lstL, lstL_ok, isD_ok, m_app, appL_ok, m_pop, popL_ok, m_rev, revL_ok, recv_ok, recvL_ok, set_loc, setL_ok, setI_ok, new_eq, Bool.not_true, Bool.not_false, if_true, eq_self, decide_true, decide_false,
  List.set_cons_zero, List.set_cons_succ, List.getElem?_cons_zero, List.getElem?_cons_succ, List.length_cons, List.length_nil, Option.some.injEq, List.cons_append, List.nil_append, List.append_assoc, Nat.reduceAdd, st_get, st_get0, st_set, st_set0, List.length_append, Nat.add_zero, Nat.zero_add, *])

/-! ### the helpers' texts -/
def B_bag : Ss := .cons (.asg (.nm 1) (.bin .add (.lc (.prim .abs (.cons (.prim .int (.cons (.var 3) .nil)) .nil)) (.nm 3) (.seq (.var 0)) .nil [3]) (.lst (.cons (.cint 7) .nil)))) (.cons (.asg (.nm 2) (.lst .nil)) (.cons (.ite (.cmp .eq (.bin .mod (.prim .int (.cons (.idx (.var 1) (.cint 0)) .nil)) (.cint 2)) (.cint 0)) (.cons (.asg (.nm 2) (.lc (.bin .fdiv (.var 3) (.cint 2)) (.nm 3) (.seq (.var 1)) (.cons (.cmp .ge (.var 3) (.bin .pow (.cint 10) (.cint 18))) .nil) [3])) (.cons (.expr (.meth .reverse (.var 2) .nil)) .nil)) .nil) (.cons (.ret (.lst (.cons (.cint 0) (.cons (.cint 0) (.cons (.var 2) (.cons (.lc (.bin .mod (.prim .int (.cons (.var 3) .nil)) (.cint 2147483647)) (.nm 3) (.seq (.var 1)) .nil [3]) .nil)))))) .nil)))
def B_draw : Ss := .cons (.setS (.var 0) (.cint 1) (.bin .add (.idx (.var 0) (.cint 1)) (.cint 1))) (.cons (.ite (.and (.cons (.cmp .eq (.idx (.var 0) (.cint 0)) (.cint 0)) (.cons (.cmp .gt (.prim .len (.cons (.idx (.var 0) (.cint 2)) .nil)) (.cint 0)) .nil))) (.cons (.setS (.var 0) (.cint 0) (.meth .pop (.idx (.var 0) (.cint 2)) .nil)) .nil) .nil) (.cons (.ite (.cmp .gt (.idx (.var 0) (.cint 0)) (.cint 0)) (.cons (.asg (.nm 2) (.bin .mod (.prim .int (.cons (.idx (.var 0) (.cint 0)) .nil)) (.var 1))) (.cons (.setS (.var 0) (.cint 0) (.bin .fdiv (.idx (.var 0) (.cint 0)) (.var 1))) (.cons (.ret (.var 2)) .nil))) .nil) (.cons (.asg (.nm 3) (.idx (.idx (.var 0) (.cint 3)) (.bin .mod (.prim .int (.cons (.idx (.var 0) (.cint 1)) .nil)) (.prim .len (.cons (.idx (.var 0) (.cint 3)) .nil))))) (.cons (.asg (.nm 4) (.bin .mod (.prim .int (.cons (.bin .add (.bin .add (.bin .mul (.var 3) (.cint 48271)) (.bin .mul (.idx (.var 0) (.cint 1)) (.cint 69621))) (.cint 1)) .nil)) (.cint 2147483647))) (.cons (.ret (.bin .mod (.bin .fdiv (.bin .mod (.prim .int (.cons (.bin .add (.bin .add (.bin .mul (.var 4) (.var 4)) (.bin .mul (.var 4) (.cint 16807))) (.bin .mul (.idx (.var 0) (.cint 1)) (.cint 40014))) .nil)) (.cint 2147483629)) (.cint 32)) (.var 1))) .nil)))))
def B_pick (draw : Nat) : Ss := .cons (.ret (.idx (.var 1) (.call draw (.cons (.var 0) (.cons (.prim .len (.cons (.var 1) .nil)) .nil))))) .nil
def B_same (same : Nat) : Ss := .cons (.ite (.cmp .isN (.var 1) (.cnon)) (.cons (.ret (.cmp .isN (.var 0) (.cnon))) .nil) .nil) (.cons (.ite (.or (.cons (.isin .bool (.var 1)) (.cons (.isin .bool (.var 0)) .nil))) (.cons (.ret (.and (.cons (.isin .bool (.var 1)) (.cons (.isin .bool (.var 0)) (.cons (.cmp .eq (.var 0) (.var 1)) .nil))))) .nil) .nil) (.cons (.ite (.isin .int (.var 1)) (.cons (.ret (.and (.cons (.isin .int (.var 0)) (.cons (.cmp .eq (.var 0) (.var 1)) .nil)))) .nil) .nil) (.cons (.ite (.isin .str (.var 1)) (.cons (.ret (.and (.cons (.isin .str (.var 0)) (.cons (.cmp .eq (.var 0) (.var 1)) .nil)))) .nil) .nil) (.cons (.ite (.or (.cons (.not (.isin .tuple (.var 1))) (.cons (.not (.isin .tuple (.var 0))) (.cons (.cmp .ne (.prim .len (.cons (.var 0) .nil)) (.prim .len (.cons (.var 1) .nil))) .nil)))) (.cons (.ret (.cbl false)) .nil) .nil) (.cons (.fo (.nm 2) (.range1 (.prim .len (.cons (.var 1) .nil))) (.cons (.ite (.not (.call same (.cons (.idx (.var 0) (.var 2)) (.cons (.idx (.var 1) (.var 2)) .nil)))) (.cons (.ret (.cbl false)) .nil) .nil) .nil)) (.cons (.ret (.cbl true)) .nil))))))
def B_gcdF : Ss := .cons (.par [0, 1] (.cons (.prim .abs (.cons (.var 0) .nil)) (.cons (.prim .abs (.cons (.var 1) .nil)) .nil))) (.cons (.fo (.nm 2) (.range1 (.cint 100000)) (.cons (.ite (.cmp .eq (.var 1) (.cint 0)) (.cons (.brk) .nil) .nil) (.cons (.par [0, 1] (.cons (.var 1) (.cons (.bin .mod (.prim .int (.cons (.var 0) .nil)) (.var 1)) .nil))) .nil))) (.cons (.ret (.var 0)) .nil))
def B_gcdW : Ss := .cons (.par [0, 1] (.cons (.prim .abs (.cons (.var 0) .nil)) (.cons (.prim .abs (.cons (.var 1) .nil)) .nil))) (.cons (.wh (.cmp .ne (.var 1) (.cint 0)) (.cons (.par [0, 1] (.cons (.var 1) (.cons (.bin .mod (.prim .int (.cons (.var 0) .nil)) (.var 1)) .nil))) .nil)) (.cons (.ret (.var 0)) .nil))
def B_divisor : Ss := .cons (.par [0, 1] (.cons (.prim .abs (.cons (.var 0) .nil)) (.cons (.prim .abs (.cons (.var 1) .nil)) .nil))) (.cons (.wh (.var 1) (.cons (.par [0, 1] (.cons (.var 1) (.cons (.bin .mod (.var 0) (.var 1)) .nil))) .nil)) (.cons (.ret (.var 0)) .nil))
def B_fr (gcd : Nat) : Ss := .cons (.asg (.nm 2) (.call gcd (.cons (.var 0) (.cons (.var 1) .nil)))) (.cons (.ret (.tup (.cons (.bin .fdiv (.var 0) (.var 2)) (.cons (.bin .fdiv (.var 1) (.var 2)) .nil)))) .nil)
def B_plus (fr : Nat) : Ss := .cons (.ret (.call fr (.cons (.bin .add (.bin .mul (.idx (.var 0) (.cint 0)) (.idx (.var 1) (.cint 1))) (.bin .mul (.idx (.var 1) (.cint 0)) (.idx (.var 0) (.cint 1)))) (.cons (.bin .mul (.idx (.var 0) (.cint 1)) (.idx (.var 1) (.cint 1))) .nil)))) .nil
def B_times (fr : Nat) : Ss := .cons (.ret (.call fr (.cons (.bin .mul (.idx (.var 0) (.cint 0)) (.idx (.var 1) (.cint 0))) (.cons (.bin .mul (.idx (.var 0) (.cint 1)) (.idx (.var 1) (.cint 1))) .nil)))) .nil
def B_more : Ss := .cons (.ret (.ite (.cmp .lt (.bin .mul (.idx (.var 0) (.cint 0)) (.idx (.var 1) (.cint 1))) (.bin .mul (.idx (.var 1) (.cint 0)) (.idx (.var 0) (.cint 1)))) (.var 1) (.var 0))) .nil
def B_gap (fr : Nat) : Ss := .cons (.ret (.call fr (.cons (.prim .abs (.cons (.bin .sub (.bin .mul (.idx (.var 0) (.cint 0)) (.idx (.var 1) (.cint 1))) (.bin .mul (.idx (.var 1) (.cint 0)) (.idx (.var 0) (.cint 1)))) .nil)) (.cons (.bin .mul (.idx (.var 0) (.cint 1)) (.idx (.var 1) (.cint 1))) .nil)))) .nil
def B_less : Ss := .cons (.ret (.cmp .lt (.bin .mul (.idx (.var 0) (.cint 0)) (.idx (.var 1) (.cint 1))) (.bin .mul (.idx (.var 1) (.cint 0)) (.idx (.var 0) (.cint 1))))) .nil
def B_greater (less : Nat) : Ss := .cons (.ret (.ite (.call less (.cons (.var 0) (.cons (.var 1) .nil))) (.var 1) (.var 0))) .nil

/-! ### gcd -/
theorem gcdW_loop (F : Fns) (c : E) (S : Store) (hc : ∀ x y : Int, truR (evE F c [some (.int x), some (.int y)] S) = .ok (decide (y ≠ 0)) S) (b : Ss)
    (hb : ∀ x y : Nat, y ≠ 0 → exSs F b [some (.int x), some (.int y)] S = .ok (.next, [some (.int y), some (.int ((x % y : Nat) : Int))]) S) :
    ∀ (y x : Nat), whS F c b [some (.int x), some (.int y)] S = .ok (.next, [some (.int (Nat.gcd x y)), some (.int 0)]) S := by
  intro y
  induction y using Nat.strongRecOn with
  | _ y ih =>
    intro x
    rw [whS_eq, hc]
    by_cases hy : y = 0
    · subst hy
      rw [show decide (((0 : Nat) : Int) ≠ 0) = false from rfl, bnd_ok, whB_f]
      simp
    · rw [show decide ((y : Int) ≠ 0) = true from decide_eq_true (by omega), bnd_ok, whB_t, hb x y hy, bnd_ok, whK_n, ih (x % y) (Nat.mod_lt _ (by omega)) y]
      rw [Nat.gcd_comm x y, Nat.gcd_rec y x, Nat.gcd_comm]
theorem e_divisor {P : Prg} {f : Nat} (hf : P f = some ⟨2, 2, B_divisor, true⟩) (n : Nat) (a b : Int) (S : Store) : callN P (n + 1) f [.int a, .int b] S = .ok (.int (Int.gcd a b)) S := by
  rw [callN_eq n _ _ hf rfl (Nat.le_of_ble_eq_true rfl)]
  refine end_pure (env := [some (.int (Int.gcd a b)), some (.int 0)]) ?_ rfl rfl
  show exSs (callN P n) B_divisor [some (.int a), some (.int b)] S = _
  unfold B_divisor
  have := gcdW_loop (callN P n) (.var 1) S (fun x y => by walk_at "ev"; simp [bne]; rfl) (.cons (.par [0, 1] (.cons (.var 1) (.cons (.bin .mod (.var 0) (.var 1)) .nil))) .nil) (fun x y hy => by
    have h2 : (0 : Int) < y := by omega
    walk_at "ev"
    simp) b.natAbs a.natAbs
  walk_at "ev"
  rw [this]
  walk_at "ev"
  rfl
theorem e_gcdW {P : Prg} {f : Nat} (hf : P f = some ⟨2, 2, B_gcdW, true⟩) (n : Nat) (a b : Int) (S : Store) : callN P (n + 1) f [.int a, .int b] S = .ok (.int (Int.gcd a b)) S := by
  rw [callN_eq n _ _ hf rfl (Nat.le_of_ble_eq_true rfl)]
  refine end_pure (env := [some (.int (Int.gcd a b)), some (.int 0)]) ?_ rfl rfl
  show exSs (callN P n) B_gcdW [some (.int a), some (.int b)] S = _
  unfold B_gcdW
  have := gcdW_loop (callN P n) (.cmp .ne (.var 1) (.cint 0)) S (fun x y => by walk_at "ev"; simp) (.cons (.par [0, 1] (.cons (.var 1) (.cons (.bin .mod (.prim .int (.cons (.var 0) .nil)) (.var 1)) .nil))) .nil) (fun x y hy => by
    have h2 : (0 : Int) < y := by omega
    walk_at "ev"
    simp) b.natAbs a.natAbs
  walk_at "ev"
  rw [this]
  walk_at "ev"
  rfl
theorem gcdF_loop (F : Fns) (S : Store) (w : Walk) (hw : w.here S) : ∀ (k : Nat) (items : List D) (x y : Nat) (o : Option D), 2 * k + 1 ≤ items.length → y < 2 ^ k →
    ∃ o', foS F (.nm 2) (.cons (.ite (.cmp .eq (.var 1) (.cint 0)) (.cons (.brk) .nil) .nil) (.cons (.par [0, 1] (.cons (.var 1) (.cons (.bin .mod (.prim .int (.cons (.var 0) .nil)) (.var 1)) .nil))) .nil)) w items [some (.int x), some (.int y), o] S
      = .ok (.next, [some (.int (Nat.gcd x y)), some (.int 0), o']) S := by
  have zero : ∀ (items : List D) (x : Nat) (o : Option D), 1 ≤ items.length → ∃ o', foS F (.nm 2) (.cons (.ite (.cmp .eq (.var 1) (.cint 0)) (.cons (.brk) .nil) .nil) (.cons (.par [0, 1] (.cons (.var 1) (.cons (.bin .mod (.prim .int (.cons (.var 0) .nil)) (.var 1)) .nil))) .nil)) w items [some (.int x), some (.int ((0 : Nat) : Int)), o] S
      = .ok (.next, [some (.int (Nat.gcd x 0)), some (.int 0), o']) S := by
    intro items x o hi
    cases items with
    | nil => simp at hi
    | cons d ds =>
      refine ⟨some d, ?_⟩
      rw [fo_cons _ _ _ _ _ _ _ _ hw]
      simp only [asgT]
      walk_at "ev"
      simp
      walk_at "ev"
  have one : ∀ (d : D) (ds : List D) (x y : Nat) (o : Option D), y ≠ 0 → foS F (.nm 2) (.cons (.ite (.cmp .eq (.var 1) (.cint 0)) (.cons (.brk) .nil) .nil) (.cons (.par [0, 1] (.cons (.var 1) (.cons (.bin .mod (.prim .int (.cons (.var 0) .nil)) (.var 1)) .nil))) .nil)) w (d :: ds) [some (.int x), some (.int y), o] S
      = foS F (.nm 2) (.cons (.ite (.cmp .eq (.var 1) (.cint 0)) (.cons (.brk) .nil) .nil) (.cons (.par [0, 1] (.cons (.var 1) (.cons (.bin .mod (.prim .int (.cons (.var 0) .nil)) (.var 1)) .nil))) .nil)) w ds [some (.int y), some (.int ((x % y : Nat) : Int)), some d] S := by
    intro d ds x y o hy
    have h2 : (0 : Int) < y := by omega
    have h3 : decide ((y : Int) = 0) = false := decide_eq_false (by omega)
    rw [fo_cons _ _ _ _ _ _ _ _ hw]
    simp only [asgT]
    walk_at "ev"
    rw [h3]
    walk_at "ev"
    simp
  intro k
  induction k with
  | zero =>
    intro items x y o hi hy
    have : y = 0 := by simpa using hy
    subst this
    exact zero items x o (by omega)
  | succ k ih =>
    intro items x y o hi hy
    by_cases h0 : y = 0
    · subst h0
      exact zero items x o (by omega)
    · cases items with
      | nil => simp at hi
      | cons d ds =>
        rw [one d ds x y o h0]
        have g1 : Nat.gcd x y = Nat.gcd y (x % y) := by rw [Nat.gcd_comm x y, Nat.gcd_rec y x, Nat.gcd_comm]
        rw [g1]
        have hz := Nat.mod_lt x (show 0 < y by omega)
        by_cases hz0 : x % y = 0
        · rw [hz0]
          simp only [List.length_cons] at hi
          exact zero ds y _ (by omega)
        · cases ds with
          | nil => simp at hi
          | cons e es =>
            rw [one e es y (x % y) _ hz0]
            have g2 : Nat.gcd y (x % y) = Nat.gcd (x % y) (y % (x % y)) := by rw [Nat.gcd_comm y, Nat.gcd_rec (x % y) y, Nat.gcd_comm]
            rw [g2]
            refine ih es (x % y) (y % (x % y)) _ (by simp only [List.length_cons] at hi; omega) ?_
            have h5 := Nat.mod_lt y (show 0 < x % y by omega)
            by_cases h6 : x % y ≤ 2 ^ k
            · omega
            · have h7 : y % (x % y) ≤ y - x % y := by
                rw [Nat.mod_eq_sub_mod (by omega)]
                exact Nat.mod_le _ _
              rw [Nat.pow_succ] at hy
              omega
theorem rng_len (lo hi : Int) : (rngK lo hi).length = (hi - lo).toNat := by unfold rngK; simp
theorem e_gcdF {P : Prg} {f : Nat} (hf : P f = some ⟨2, 3, B_gcdF, true⟩) (n : Nat) (a b : Int) (S : Store) (hb : b.natAbs < 2 ^ 40000) : callN P (n + 1) f [.int a, .int b] S = .ok (.int (Int.gcd a b)) S := by
  rw [callN_eq n _ _ hf rfl (Nat.le_of_ble_eq_true rfl)]
  obtain ⟨o, ho⟩ := gcdF_loop (callN P n) S ⟨rngK 0 100000, none⟩ True.intro 40000 (rngK 0 100000) a.natAbs b.natAbs none (by rw [rng_len]; decide) hb
  refine end_pure (env := [some (.int (Int.gcd a b)), some (.int 0), o]) ?_ rfl rfl
  show exSs (callN P n) B_gcdF [some (.int a), some (.int b), none] S = _
  unfold B_gcdF
  walk_at "ev"
  rw [ho]
  walk_at "ev"
  rfl

/-! ### fractions -/
def frD (p : Int × Int) : D := .tup [.int p.1, .int p.2]
def lowF (a b : Int) : Int × Int := (a / (Int.gcd a b : Int), b / (Int.gcd a b : Int))
def plusF (p q : Int × Int) : Int × Int := lowF (p.1 * q.2 + q.1 * p.2) (p.2 * q.2)
def timesF (p q : Int × Int) : Int × Int := lowF (p.1 * q.1) (p.2 * q.2)
def moreF (p q : Int × Int) : Int × Int := if p.1 * q.2 < q.1 * p.2 then q else p
structure Sm (p : Int × Int) : Prop where
  n : p.1.natAbs < 2 ^ 3000
  pos : 0 < p.2
  d : p.2.natAbs < 2 ^ 3000
theorem cl_fr (n : Nat) (p : Int × Int) : clD n (frD p) = true := rfl
def GcdOk (P : Prg) (g : Nat) : Prop := ∀ (n : Nat) (a b : Int) (S : Store), b.natAbs < 2 ^ 40000 → callN P (n + 1) g [.int a, .int b] S = .ok (.int (Int.gcd a b)) S
def FrOk (P : Prg) (f : Nat) : Prop := ∀ (n : Nat) (a b : Int) (S : Store), 0 < b → b.natAbs < 2 ^ 8000 → callN P (n + 2) f [.int a, .int b] S = .ok (frD (lowF a b)) S
def PlusOk (P : Prg) (f : Nat) : Prop := ∀ (n : Nat) (p q : Int × Int) (S : Store), Sm p → Sm q → callN P (n + 3) f [frD p, frD q] S = .ok (frD (plusF p q)) S
def TimesOk (P : Prg) (f : Nat) : Prop := ∀ (n : Nat) (p q : Int × Int) (S : Store), Sm p → Sm q → callN P (n + 3) f [frD p, frD q] S = .ok (frD (timesF p q)) S
def MoreOk (P : Prg) (f : Nat) : Prop := ∀ (n : Nat) (p q : Int × Int) (S : Store), Sm p → Sm q → callN P (n + 2) f [frD p, frD q] S = .ok (frD (moreF p q)) S
theorem pow_le_pow {a b : Nat} (h : a ≤ b) : (2 : Nat) ^ a ≤ 2 ^ b := Nat.pow_le_pow_right (by decide) h
theorem gcd_pos {a b : Int} (h : 0 < b) : 0 < Int.gcd a b := Int.gcd_pos_of_ne_zero_right a (by omega)
theorem gcd_le {a b : Int} (h : 0 < b) : Int.gcd a b ≤ b.natAbs := Int.gcd_le_natAbs_right a (by omega)
theorem cdiv_gcd {a b : Int} (h : 0 < b) (hb : b.natAbs < 2 ^ 8000) : CDivW x (Int.gcd a b : Int) := by
  have h1 := gcd_pos (a := a) h
  have h2 := gcd_le (a := a) h
  exact wide_div (b := 8000) (by omega) (by rw [Int.natAbs_natCast]; omega) (by decide) (by decide)
theorem gcdOk_W {P : Prg} {g : Nat} (h : P g = some ⟨2, 2, B_gcdW, true⟩) : GcdOk P g := fun n a b S _ => e_gcdW h n a b S
theorem gcdOk_F {P : Prg} {g : Nat} (h : P g = some ⟨2, 3, B_gcdF, true⟩) : GcdOk P g := fun n a b S hb => e_gcdF h n a b S hb
theorem gcdOk_D {P : Prg} {g : Nat} (h : P g = some ⟨2, 2, B_divisor, true⟩) : GcdOk P g := fun n a b S _ => e_divisor h n a b S
theorem frOk {P : Prg} {f g : Nat} (h : P f = some ⟨2, 3, B_fr g, true⟩) (hg : GcdOk P g) : FrOk P f := by
  intro n a b S h0 hb
  rw [callN_eq (n + 1) _ _ h rfl (Nat.le_of_ble_eq_true rfl)]
  refine end_pure (env := [some (.int a), some (.int b), some (.int (Int.gcd a b))]) ?_ rfl rfl
  show exSs (callN P (n + 1)) (B_fr g) [some (.int a), some (.int b), none] S = _
  unfold B_fr
  have e := hg n a b S (Nat.lt_of_lt_of_le hb (pow_le_pow (by decide)))
  have c1 : CDivW a (Int.gcd a b : Int) := cdiv_gcd h0 hb
  have c2 : CDivW b (Int.gcd a b : Int) := cdiv_gcd h0 hb
  walk_at "ev"
  rw [e]
  walk_at "ev"
  rfl
theorem sm_mul {a b : Int} (ha : a.natAbs < 2 ^ 3000) (hb : b.natAbs < 2 ^ 3000) : CMulW a b ∨ CMul a b := cmul_wide ha hb (by decide) (by decide) (by decide)
theorem sm_den {p q : Int × Int} (hp : Sm p) (hq : Sm q) : 0 < p.2 * q.2 ∧ (p.2 * q.2).natAbs < 2 ^ 8000 := by
  refine ⟨Int.mul_pos hp.pos hq.pos, Nat.lt_of_lt_of_le (wide_lt hp.d hq.d) (pow_le_pow (by decide))⟩
theorem plusOk {P : Prg} {f g : Nat} (h : P f = some ⟨2, 2, B_plus g, true⟩) (hg : FrOk P g) : PlusOk P f := by
  intro n p q S hp hq
  rw [callN_eq (n + 2) _ _ h rfl (Nat.le_of_ble_eq_true rfl)]
  refine end_pure (env := [some (frD p), some (frD q)]) ?_ rfl rfl
  show exSs (callN P (n + 2)) (B_plus g) [some (frD p), some (frD q)] S = _
  unfold B_plus frD
  have c1 := sm_mul hp.n hq.d
  have c2 := sm_mul hq.n hp.d
  have c3 := sm_mul hp.d hq.d
  have d := sm_den hp hq
  walk_at "ev"
  rw [hg n _ _ S d.1 d.2]
  walk_at "ev"
  rfl
theorem timesOk {P : Prg} {f g : Nat} (h : P f = some ⟨2, 2, B_times g, true⟩) (hg : FrOk P g) : TimesOk P f := by
  intro n p q S hp hq
  rw [callN_eq (n + 2) _ _ h rfl (Nat.le_of_ble_eq_true rfl)]
  refine end_pure (env := [some (frD p), some (frD q)]) ?_ rfl rfl
  show exSs (callN P (n + 2)) (B_times g) [some (frD p), some (frD q)] S = _
  unfold B_times frD
  have c1 := sm_mul hp.n hq.n
  have c3 := sm_mul hp.d hq.d
  have d := sm_den hp hq
  walk_at "ev"
  rw [hg n _ _ S d.1 d.2]
  walk_at "ev"
  rfl
theorem moreOk {P : Prg} {f : Nat} (h : P f = some ⟨2, 2, B_more, true⟩) : MoreOk P f := by
  intro n p q S hp hq
  rw [callN_eq (n + 1) _ _ h rfl (Nat.le_of_ble_eq_true rfl)]
  refine end_pure (env := [some (frD p), some (frD q)]) ?_ rfl rfl
  show exSs (callN P (n + 1)) B_more [some (frD p), some (frD q)] S = _
  unfold B_more frD moreF
  have c1 := sm_mul hp.n hq.d
  have c2 := sm_mul hq.n hp.d
  walk_at "ev"
  by_cases hc : p.1 * q.2 < q.1 * p.2
  · rw [decide_eq_true hc, if_pos hc]
    walk_at "ev"
  · rw [decide_eq_false hc, if_neg hc]
    walk_at "ev"
theorem e_less {P : Prg} {f : Nat} (h : P f = some ⟨2, 2, B_less, true⟩) (n : Nat) (p q : Int × Int) (S : Store) (hp : Sm p) (hq : Sm q) : callN P (n + 1) f [frD p, frD q] S = .ok (.bl (decide (p.1 * q.2 < q.1 * p.2))) S := by
  rw [callN_eq n _ _ h rfl (Nat.le_of_ble_eq_true rfl)]
  refine end_pure (env := [some (frD p), some (frD q)]) ?_ rfl rfl
  show exSs (callN P n) B_less [some (frD p), some (frD q)] S = _
  unfold B_less frD
  have c1 := sm_mul hp.n hq.d
  have c2 := sm_mul hq.n hp.d
  walk_at "ev"
theorem greaterOk {P : Prg} {f g : Nat} (h : P f = some ⟨2, 2, B_greater g, true⟩) (hg : P g = some ⟨2, 2, B_less, true⟩) : MoreOk P f := by
  intro n p q S hp hq
  rw [callN_eq (n + 1) _ _ h rfl (Nat.le_of_ble_eq_true rfl)]
  refine end_pure (env := [some (frD p), some (frD q)]) ?_ rfl rfl
  show exSs (callN P (n + 1)) (B_greater g) [some (frD p), some (frD q)] S = _
  unfold B_greater moreF
  have e := e_less hg n p q S hp hq
  walk_at "ev"
  rw [e]
  walk_at "ev"
  by_cases hc : p.1 * q.2 < q.1 * p.2
  · rw [decide_eq_true hc, if_pos hc]
    walk_at "ev"
  · rw [decide_eq_false hc, if_neg hc]
    walk_at "ev"

/-! ### the size of fractions -/
/-- the lower part divides D, the worth is at most V -/
structure Fb (D V : Nat) (p : Int × Int) : Prop where
  pos : 0 < p.2
  dvd : p.2 ∣ (D : Int)
  le : p.1.natAbs ≤ V * p.2.natAbs
theorem Fb.mono {D V W : Nat} {p : Int × Int} (h : Fb D V p) (hw : V ≤ W) : Fb D W p := ⟨h.pos, h.dvd, Nat.le_trans h.le (Nat.mul_le_mul_right _ hw)⟩
theorem Fb.up {D E V : Nat} {p : Int × Int} (h : Fb D V p) (hw : D ∣ E) : Fb E V p := ⟨h.pos, Int.dvd_trans h.dvd (Int.natCast_dvd_natCast.mpr hw), h.le⟩
theorem Fb.sm {D V : Nat} {p : Int × Int} (h : Fb D V p) (h0 : 0 < D) (h1 : D < 2 ^ 1500) (h2 : V < 2 ^ 1500) : Sm p := by
  have h3 : p.2.natAbs ≤ D := Nat.le_of_dvd h0 (Int.natCast_dvd_natCast.mp ((Int.natAbs_dvd).mpr h.dvd))
  have h4 : p.2.natAbs < 2 ^ 1500 := Nat.lt_of_le_of_lt h3 h1
  refine ⟨?_, h.pos, Nat.lt_of_lt_of_le h4 (pow_le_pow (by decide))⟩
  have h5 := h.le
  have h6 : V * p.2.natAbs < 2 ^ 1500 * 2 ^ 1500 := Nat.mul_lt_mul'' h2 h4
  rw [← Nat.pow_add] at h6
  omega
theorem low_parts {a b : Int} (h : 0 < b) : ∃ u v : Int, ∃ g : Nat, 0 < g ∧ lowF a b = (u, v) ∧ a = g * u ∧ b = g * v ∧ 0 < v ∧ Int.gcd u v = 1 := by
  have hg := gcd_pos (a := a) h
  obtain ⟨u, hu⟩ : (Int.gcd a b : Int) ∣ a := Int.gcd_dvd_left ..
  obtain ⟨v, hv⟩ : (Int.gcd a b : Int) ∣ b := Int.gcd_dvd_right ..
  generalize hG : Int.gcd a b = g at *
  have h1 : a / (g : Int) = u := by rw [hu]; exact Int.mul_ediv_cancel_left _ (by omega)
  have h2 : b / (g : Int) = v := by rw [hv]; exact Int.mul_ediv_cancel_left _ (by omega)
  refine ⟨u, v, g, hg, ?_, hu, hv, ?_, ?_⟩
  · unfold lowF
    rw [hG, h1, h2]
  · rcases Int.lt_or_le 0 v with z | z
    · exact z
    · have := Int.mul_nonpos_of_nonneg_of_nonpos (a := (g : Int)) (by omega) z
      omega
  · have e : Int.gcd (g * u) (g * v) = g * Int.gcd u v := by rw [Int.gcd_mul_left, Int.natAbs_natCast]
    rw [← hu, ← hv, hG] at e
    have : g * 1 = g * Int.gcd u v := by omega
    exact (Nat.eq_of_mul_eq_mul_left hg this).symm
theorem low_fb {a b : Int} {D V : Nat} (h : 0 < b) (hd : b ∣ a * D) (hv : a.natAbs ≤ V * b.natAbs) : Fb D V (lowF a b) := by
  obtain ⟨u, v, g, hg, e, ha, hb, hv0, hc⟩ := low_parts (a := a) h
  rw [e]
  refine ⟨hv0, ?_, ?_⟩
  · rw [ha, hb, Int.mul_assoc] at hd
    have : v ∣ u * D := Int.dvd_of_mul_dvd_mul_left (by omega) hd
    have h9 := Int.natAbs_dvd_natAbs.mpr this
    rw [Int.natAbs_mul] at h9
    have hc' : Nat.Coprime v.natAbs u.natAbs := by
      show Nat.gcd v.natAbs u.natAbs = 1
      rw [Nat.gcd_comm]; exact hc
    exact Int.natAbs_dvd_natAbs.mp (hc'.dvd_of_dvd_mul_left h9)
  · rw [ha, hb, Int.natAbs_mul, Int.natAbs_mul, Int.natAbs_natCast, Nat.mul_left_comm] at hv
    exact Nat.le_of_mul_le_mul_left hv hg
theorem fb_fr {a b : Int} {D V : Nat} (h : 0 < b) (hd : b ∣ (D : Int)) (hv : a.natAbs ≤ V * b.natAbs) : Fb D V (lowF a b) := low_fb h (Int.dvd_trans hd (Int.dvd_mul_left _ _)) hv
theorem fb_plus {D V W : Nat} {p q : Int × Int} (hp : Fb D V p) (hq : Fb D W q) : Fb D (V + W) (plusF p q) := by
  unfold plusF
  refine low_fb (Int.mul_pos hp.pos hq.pos) ?_ ?_
  · rw [Int.add_mul]
    obtain ⟨u, hu⟩ := hp.dvd
    obtain ⟨v, hv⟩ := hq.dvd
    refine Int.dvd_add ?_ ?_
    · conv => rhs; rhs; rw [hu]
      refine ⟨p.1 * u, ?_⟩
      simp only [Int.mul_assoc, Int.mul_left_comm, Int.mul_comm]
    · conv => rhs; rhs; rw [hv]
      refine ⟨q.1 * v, ?_⟩
      simp only [Int.mul_assoc, Int.mul_left_comm, Int.mul_comm]
  · have h1 := hp.le
    have h2 := hq.le
    refine Nat.le_trans (Int.natAbs_add_le _ _) ?_
    rw [Int.natAbs_mul, Int.natAbs_mul, Int.natAbs_mul, Nat.add_mul]
    have h3 := Nat.mul_le_mul_right q.2.natAbs h1
    have h4 := Nat.mul_le_mul_right p.2.natAbs h2
    have e3 : V * p.2.natAbs * q.2.natAbs = V * (p.2.natAbs * q.2.natAbs) := Nat.mul_assoc ..
    have e4 : W * q.2.natAbs * p.2.natAbs = W * (p.2.natAbs * q.2.natAbs) := by rw [Nat.mul_assoc, Nat.mul_comm q.2.natAbs]
    omega
theorem fb_times {D E V W : Nat} {p q : Int × Int} (hp : Fb D V p) (hq : Fb E W q) : Fb (D * E) (V * W) (timesF p q) := by
  unfold timesF
  refine low_fb (Int.mul_pos hp.pos hq.pos) ?_ ?_
  · rw [Int.natCast_mul]
    exact Int.dvd_trans (Int.mul_dvd_mul hp.dvd hq.dvd) (Int.dvd_mul_left _ _)
  · rw [Int.natAbs_mul, Int.natAbs_mul]
    have := Nat.mul_le_mul hp.le hq.le
    have e : V * p.2.natAbs * (W * q.2.natAbs) = V * W * (p.2.natAbs * q.2.natAbs) := by simp only [Nat.mul_assoc, Nat.mul_left_comm]
    omega
theorem fb_more {D V : Nat} {p q : Int × Int} (hp : Fb D V p) (hq : Fb D V q) : Fb D V (moreF p q) := by
  unfold moreF
  split
  · exact hq
  · exact hp
theorem fb_lit {a b : Int} {D V : Nat} (h : 0 < b) (hd : b ∣ (D : Int)) (hv : a.natAbs ≤ V * b.natAbs) : Fb D V (a, b) := ⟨h, hd, hv⟩
end
end SX
namespace SX
open PySem PySem.Spec PyProof.Rows L2
noncomputable section
open Classical
local macro_rules | `(tactic| walk_at "ev") => `(tactic| simp (config := { maxSteps := 3000000 }) (disch := first | assumption | omega | exact ⟨by omega, by omega⟩ | exact ⟨⟨by omega, by omega⟩, ⟨by omega, by omega⟩⟩ | exact Nat.le_of_ble_eq_true rfl | decide) only [bnd_ok, bnd_bad, binJ_eq, binK_eq, notK_eq, cmpJ_eq, cmpK_eq, idxJ_eq, idxK_eq, calJ_eq, clkJ_eq, clkK_eq, priJ_eq, isiJ_eq, metJ_eq, metI_t, metK_eq, lcJ_eq, lcK_eq, conJ_eq, conK_eq, andJ_eq, orJ_eq, rg2J_eq, nxtK_eq, setI1_eq, setI2_eq, setI3_eq, retK_eq,  vE_var, varK_ok, vE_int, vE_bl, vE_non, vE_str, vE_tup, vE_lst, vE_bin, vE_neg, vE_not, vE_and, vE_or, vE_cmp, vE_ite, brE_t, brE_f, vE_idx, vE_slc, vE_call, vE_callk, vE_prim, vE_isin, vE_meth, vE_lc, vE_gcon, toD_int, toD_strs, vE_chain, chnI_eq, chnK_eq, chnJ_t, chnJ_f, vE_tupG, tgJ_eq, tgK_eq, vE_qual, qlK_eq, vE_sumG, smK_eq, vE_lc2, l2K_eq, vEs_nil, vEs_cons, vA_one, vA_cons, vO_one, vO_cons, andK_t, andK_f, orK_t, orK_f, vT_nil, vT_cons, vI_seq, seqK_tup, seqK_rls, seqK_loc, seqL_ok, vI_range1, rg1_int, vI_range2, rg2_int,
  xS_asg, asgK_nm, asgT_nm, asgT_tp2, asgT_tp3, asgK_tp2, asgK_tp3, xS_par, parK_2, parK_3, xS_setS, xS_aug, augV_ok, augK_add, augK_sub, xS_augS, agR_some, agD_eq, agX_eq, agI_eq, agO_eq, idxM_loc, augD_add, augD_sub, xS_expr, xS_ret, xS_retN, xS_ite, brS_t, brS_f, xS_wh, whB_t, whB_f, whK_n, whK_c, whK_b, whK_r, xS_fo, foT_some, foK_n, foK_c, foK_b, foK_r, xS_brk, xS_cont, xS_pass, xSs_nil, xSs_cons, sqK_n, sqK_r, sqK_b, sqK_c,
  b_add, b_sub, b_mul, b_mulL, b_mulR, b_fdiv, b_mod, b_pow, b_addT, b_addL, addL_ok, b_repT, k_lt, k_le, k_gt, k_ge, k_eq, k_ne, k_isN, k_notN, k_in, k_nin, tr_str, q_int, q_bl, q_str, ofB_some, Option.map_some, tr_bl, tr_int, tr_non, tr_tup, tr_loc, trK_ok, td_bl, td_int, td_tup, i_tup, i_rls, i_loc, idxL_ok, okV_some, at0, at1, at2, at3, at_m1, tupK_ok, lstK_ok, negK_int, p_abs, p_int, p_intB, p_lenT, p_lenR, p_lenL, lenL_ok, p_max, p_min, p_tupT, p_tupL, tupL_ok, p_lstT, p_lstL, lstL_ok, isD_ok, m_app, appL_ok, m_pop, popL_ok, m_rev, revL_ok, recv_ok, recvL_ok, set_loc, setL_ok, setI_ok, new_eq, Bool.not_true, Bool.not_false, if_true, eq_self, decide_true, decide_false,
  List.set_cons_zero, List.set_cons_succ, List.getElem?_cons_zero, List.getElem?_cons_succ, List.length_cons, List.length_nil, Option.some.injEq])
local macro_rules | `(tactic| walk_at "ev*") => `(tactic| simp (config := { maxSteps := 3000000 }) (disch := first | assumption | omega | exact ⟨by omega, by omega⟩ | exact ⟨⟨by omega, by omega⟩, ⟨by omega, by omega⟩⟩ | exact Nat.le_of_ble_eq_true rfl | decide) only [bnd_ok, bnd_bad, binJ_eq, binK_eq, notK_eq, cmpJ_eq, cmpK_eq, idxJ_eq, idxK_eq, calJ_eq, clkJ_eq, clkK_eq, priJ_eq, isiJ_eq, metJ_eq, metI_t, metK_eq, lcJ_eq, lcK_eq, conJ_eq, conK_eq, andJ_eq, orJ_eq, rg2J_eq, nxtK_eq, setI1_eq, setI2_eq, setI3_eq, retK_eq,  vE_var, varK_ok, vE_int, vE_bl, vE_non, vE_str, vE_tup, vE_lst, vE_bin, vE_neg, vE_not, vE_and, vE_or, vE_cmp, vE_ite, brE_t, brE_f, vE_idx, vE_slc, vE_call, vE_callk, vE_prim, vE_isin, vE_meth, vE_lc, vE_gcon, toD_int, toD_strs, vE_chain, chnI_eq, chnK_eq, chnJ_t, chnJ_f, vE_tupG, tgJ_eq, tgK_eq, vE_qual, qlK_eq, vE_sumG, smK_eq, vE_lc2, l2K_eq, vEs_nil, vEs_cons, vA_one, vA_cons, vO_one, vO_cons, andK_t, andK_f, orK_t, orK_f, vT_nil, vT_cons, vI_seq, seqK_tup, seqK_rls, seqK_loc, seqL_ok, vI_range1, rg1_int, vI_range2, rg2_int,
  xS_asg, asgK_nm, asgT_nm, asgT_tp2, asgT_tp3, asgK_tp2, asgK_tp3, xS_par, parK_2, parK_3, xS_setS, xS_aug, augV_ok, augK_add, augK_sub, xS_augS, agR_some, agD_eq, agX_eq, agI_eq, agO_eq, idxM_loc, augD_add, augD_sub, xS_expr, xS_ret, xS_retN, xS_ite, brS_t, brS_f, xS_wh, whB_t, whB_f, whK_n, whK_c, whK_b, whK_r, xS_fo, foT_some, foK_n, foK_c, foK_b, foK_r, xS_brk, xS_cont, xS_pass, xSs_nil, xSs_cons, sqK_n, sqK_r, sqK_b, sqK_c,
  b_add, b_sub, b_mul, b_mulL, b_mulR, b_fdiv, b_mod, b_pow, b_addT, b_addL, addL_ok, b_repT, k_lt, k_le, k_gt, k_ge, k_eq, k_ne, k_isN, k_notN, k_in, k_nin, tr_str, q_int, q_bl, q_str, ofB_some, Option.map_some, tr_bl, tr_int, tr_non, tr_tup, tr_loc, trK_ok, td_bl, td_int, td_tup, i_tup, i_rls, i_loc, idxL_ok, okV_some, at0, at1, at2, at3, at_m1, tupK_ok, lstK_ok, negK_int, p_abs, p_int, p_intB, p_lenT, p_lenR, p_lenL, lenL_ok, p_max, p_min, p_tupT, p_tupL, tupL_ok, p_lstT, p_lstL, lstL_ok, isD_ok, m_app, appL_ok, m_pop, popL_ok, m_rev, revL_ok, recv_ok, recvL_ok, set_loc, setL_ok, setI_ok, new_eq, Bool.not_true, Bool.not_false, if_true, eq_self, decide_true, decide_false,
  List.set_cons_zero, List.set_cons_succ, List.getElem?_cons_zero, List.getElem?_cons_succ, List.length_cons, List.length_nil, Option.some.injEq, *])
local macro_rules | `(tactic| walk_at "evs") => `(tactic| simp (config := { maxSteps := 3000000 }) (disch := first | assumption | omega | exact ⟨by omega, by omega⟩ | exact ⟨⟨by omega, by omega⟩, ⟨by omega, by omega⟩⟩ | exact Nat.le_of_ble_eq_true rfl | decide) only [bnd_ok, bnd_bad, binJ_eq, binK_eq, notK_eq, cmpJ_eq, cmpK_eq, idxJ_eq, idxK_eq, calJ_eq, clkJ_eq, clkK_eq, priJ_eq, isiJ_eq, metJ_eq, metI_t, metK_eq, lcJ_eq, lcK_eq, conJ_eq, conK_eq, andJ_eq, orJ_eq, rg2J_eq, nxtK_eq, setI1_eq, setI2_eq, setI3_eq, retK_eq,  vE_var, varK_ok, vE_int, vE_bl, vE_non, vE_str, vE_tup, vE_lst, vE_bin, vE_neg, vE_not, vE_and, vE_or, vE_cmp, vE_ite, brE_t, brE_f, vE_idx, vE_slc, vE_call, vE_callk, vE_prim, vE_isin, vE_meth, vE_lc, vE_gcon, toD_int, toD_strs, vE_chain, chnI_eq, chnK_eq, chnJ_t, chnJ_f, vE_tupG, tgJ_eq, tgK_eq, vE_qual, qlK_eq, vE_sumG, smK_eq, vE_lc2, l2K_eq, vEs_nil, vEs_cons, vA_one, vA_cons, vO_one, vO_cons, andK_t, andK_f, orK_t, orK_f, vT_nil, vT_cons, vI_seq, seqK_tup, seqK_rls, seqK_loc, seqL_ok, vI_range1, rg1_int, vI_range2, rg2_int,
  xS_asg, asgK_nm, asgT_nm, asgT_tp2, asgT_tp3, asgK_tp2, asgK_tp3, xS_par, parK_2, parK_3, xS_setS, xS_aug, augV_ok, augK_add, augK_sub, xS_augS, agR_some, agD_eq, agX_eq, agI_eq, agO_eq, idxM_loc, augD_add, augD_sub, xS_expr, xS_ret, xS_retN, xS_ite, brS_t, brS_f, xS_wh, whB_t, whB_f, whK_n, whK_c, whK_b, whK_r, xS_fo, foT_some, foK_n, foK_c, foK_b, foK_r, xS_brk, xS_cont, xS_pass, xSs_nil, xSs_cons, sqK_n, sqK_r, sqK_b, sqK_c,
  b_add, b_sub, b_mul, b_mulL, b_mulR, b_fdiv, b_mod, b_pow, b_addT, b_addL, addL_ok, b_repT, k_lt, k_le, k_gt, k_ge, k_eq, k_ne, k_isN, k_notN, k_in, k_nin, tr_str, q_int, q_bl, q_str, ofB_some, Option.map_some, tr_bl, tr_int, tr_non, tr_tup, tr_loc, trK_ok, td_bl, td_int, td_tup, i_tup, i_rls, i_loc, idxL_ok, okV_some, at0, at1, at2, at3, at_m1, tupK_ok, lstK_ok, negK_int, p_abs, p_int, p_intB, p_lenT, p_lenR, p_lenL, lenL_ok, p_max, p_min, p_tupT, p_tupL, tupL_ok, p_lstT, p_lstL, lstL_ok, isD_ok, m_app, appL_ok, m_pop, popL_ok, m_rev, revL_ok, recv_ok, recvL_ok, set_loc, setL_ok, setI_ok, new_eq, Bool.not_true, Bool.not_false, if_true, eq_self, decide_true, decide_false,
  List.set_cons_zero, List.set_cons_succ, List.getElem?_cons_zero, List.getElem?_cons_succ, List.length_cons, List.length_nil, Option.some.injEq, List.cons_append, List.nil_append, List.append_assoc, Nat.reduceAdd, st_get, st_get0, st_set, st_set0, List.length_append, Nat.add_zero, Nat.zero_add, *])

/-! ### the bag -/
structure Bag3 (S : Store) (l g c : Nat) (x k : Int) (gs cs : List Int) : Prop where
  hl : S[l]? = some (.lst [.int x, .int k, .loc g, .loc c])
  hg : S[g]? = some (.lst (gs.map .int))
  hc : S[c]? = some (.lst (cs.map .int))
  ne : cs ≠ []
  lg : l ≠ g
  lc : l ≠ c
  gc : g ≠ c
theorem get_lt {S : Store} {l : Nat} {o : SO} (h : S[l]? = some o) : l < S.length := (List.getElem?_eq_some_iff.mp h).1
theorem Bag3.set_l {S : Store} {l g c : Nat} {x k : Int} {gs cs : List Int} (h : Bag3 S l g c x k gs cs) (x' k' : Int) : Bag3 (S.set l (.lst [.int x', .int k', .loc g, .loc c])) l g c x' k' gs cs :=
  ⟨by rw [List.getElem?_set_self (get_lt h.hl)], by rw [List.getElem?_set_ne h.lg]; exact h.hg, by rw [List.getElem?_set_ne h.lc]; exact h.hc, h.ne, h.lg, h.lc, h.gc⟩
theorem Bag3.set_g {S : Store} {l g c : Nat} {x k : Int} {gs cs : List Int} (h : Bag3 S l g c x k gs cs) (gs' : List Int) : Bag3 (S.set g (.lst (gs'.map .int))) l g c x k gs' cs :=
  ⟨by rw [List.getElem?_set_ne (fun z => h.lg z.symm)]; exact h.hl, by rw [List.getElem?_set_self (get_lt h.hg)], by rw [List.getElem?_set_ne h.gc]; exact h.hc, h.ne, h.lg, h.lc, h.gc⟩
structure Off (S S' : Store) (l g : Nat) : Prop where
  len : S'.length = S.length
  same : ∀ j, j ≠ l → j ≠ g → S'[j]? = S[j]?
theorem Off.refl (S : Store) (l g : Nat) : Off S S l g := ⟨rfl, fun _ _ _ => rfl⟩
theorem Off.set_l {S S' : Store} {l g : Nat} (h : Off S S' l g) (o : SO) : Off S (S'.set l o) l g := ⟨by rw [List.length_set]; exact h.len, fun j h1 h2 => by rw [List.getElem?_set_ne (fun z => h1 z.symm)]; exact h.same j h1 h2⟩
theorem Off.set_g {S S' : Store} {l g : Nat} (h : Off S S' l g) (o : SO) : Off S (S'.set g o) l g := ⟨by rw [List.length_set]; exact h.len, fun j h1 h2 => by rw [List.getElem?_set_ne (fun z => h2 z.symm)]; exact h.same j h1 h2⟩
theorem ixN_nat {n i : Nat} (h : i < n) : ixN n (i : Int) = some i := by
  unfold ixN
  rw [if_pos (by omega), if_pos (by omega)]
  simp
theorem ixN4_0 : ixN (0 + 1 + 1 + 1 + 1) (0 : Int) = some 0 := rfl
theorem ixN4_1 : ixN (0 + 1 + 1 + 1 + 1) (1 : Int) = some 1 := rfl
theorem draw3 {P : Prg} {f : Nat} (hf : P f = some ⟨2, 5, B_draw, false⟩) (n : Nat) (S : Store) (l g c : Nat) (x k : Int) (gs cs : List Int) (m : Int)
    (hB : Bag3 S l g c x k gs cs) (hm : 0 < m) (hm2 : m.natAbs < 2 ^ 8000) :
    ∃ r S' x' k' gs', callN P (n + 1) f [.loc l, .int m] S = .ok (.int r) S' ∧ 0 ≤ r ∧ r < m ∧ Bag3 S' l g c x' k' gs' cs ∧ Off S S' l g := by
  rw [callN_eq n _ _ hf rfl (Nat.le_of_ble_eq_true rfl)]
  have cd : ∀ y, CDivW y m := fun y => wide_div (b := 8000) hm hm2 (by decide) (by decide)
  suffices H : ∃ r S' x' k' gs' env, exSs (callN P n) B_draw [some (.loc l), some (.int m), none, none, none] S = .ok (.ret (.int r), env) S' ∧ 0 ≤ r ∧ r < m ∧ Bag3 S' l g c x' k' gs' cs ∧ Off S S' l g by
    obtain ⟨r, S', x', k', gs', env, h, h2⟩ := H
    exact ⟨r, S', x', k', gs', end_any h rfl, h2⟩
  unfold B_draw
  -- the counter
  have hl := hB.hl
  rw [xSs_cons]
  have s1 : exS (callN P n) (.setS (.var 0) (.cint 1) (.bin .add (.idx (.var 0) (.cint 1)) (.cint 1))) [some (.loc l), some (.int m), none, none, none] S
      = .ok (.next, [some (.loc l), some (.int m), none, none, none]) (S.set l (.lst [.int x, .int (k + 1), .loc g, .loc c])) := by
    walk_at "ev*"
    rw [ixN4_1]
    walk_at "ev*"
  rw [s1]
  have hB1 := hB.set_l x (k + 1)
  have hO1 := (Off.refl S l g).set_l (.lst [.int x, .int (k + 1), .loc g, .loc c])
  clear s1
  generalize S.set l (.lst [.int x, .int (k + 1), .loc g, .loc c]) = S1 at hB1 hO1
  rw [bnd_ok, sqK_n, xSs_cons]
  clear hl hB
  generalize k + 1 = k1 at hB1
  have hl := hB1.hl
  have hg := hB1.hg
  -- a great cell
  have s2 : ∃ S2 x2 gs2, exS (callN P n) (.ite (.and (.cons (.cmp .eq (.idx (.var 0) (.cint 0)) (.cint 0)) (.cons (.cmp .gt (.prim .len (.cons (.idx (.var 0) (.cint 2)) .nil)) (.cint 0)) .nil))) (.cons (.setS (.var 0) (.cint 0) (.meth .pop (.idx (.var 0) (.cint 2)) .nil)) .nil) .nil) [some (.loc l), some (.int m), none, none, none] S1
      = .ok (.next, [some (.loc l), some (.int m), none, none, none]) S2 ∧ Bag3 S2 l g c x2 k1 gs2 cs ∧ Off S S2 l g := by
    by_cases hx : x = 0
    · rcases List.eq_nil_or_concat gs with h0 | ⟨gs', y, h0⟩
      · subst h0
        refine ⟨S1, x, [], ?_, hB1, hO1⟩
        subst hx
        have e2 : decide ((0 : Int) < ((List.map D.int []).length : Int)) = false := rfl
        walk_at "ev*"
      · rw [List.concat_eq_append] at h0
        subst h0
        refine ⟨(S1.set g (.lst (gs'.map .int))).set l (.lst [.int y, .int k1, .loc g, .loc c]), y, gs', ?_, (hB1.set_g gs').set_l y k1, (hO1.set_g _).set_l _⟩
        have hB2 := (hB1.set_g gs').hl
        subst hx
        have e2 : decide ((0 : Int) < ((List.map D.int gs' ++ [D.int y]).length : Int)) = true := decide_eq_true (by simp only [List.length_map, List.length_append, List.length_cons]; omega)
        have hg' : S1[g]? = some (.lst (gs'.map .int ++ [.int y])) := by rw [hg]; simp
        clear hg
        walk_at "ev*"
        rw [ixN4_0]
        walk_at "ev*"
    · refine ⟨S1, x, gs, ?_, hB1, hO1⟩
      walk_at "ev*"
  obtain ⟨S2, x2, gs2, e2, hB2, hO2⟩ := s2
  rw [e2, bnd_ok, sqK_n]
  clear e2 hl hg hB1 hO1
  have hl := hB2.hl
  have hc := hB2.hc
  by_cases hx : 0 < x2
  · have cd2 := cd x2
    refine ⟨x2 % m, S2.set l (.lst [.int (x2 / m), .int k1, .loc g, .loc c]), x2 / m, k1, gs2, [some (.loc l), some (.int m), some (.int (x2 % m)), none, none], ?_, Int.emod_nonneg _ (by omega), Int.emod_lt_of_pos _ hm, hB2.set_l _ _, hO2.set_l _⟩
    walk_at "ev*"
    rw [ixN4_0]
    walk_at "ev*"
  · have hn : 0 < cs.length := by have := hB2.ne; cases cs with | nil => exact absurd rfl this | cons a b => simp
    have hcl : (0 : Int) < (((cs.map D.int).length : Nat) : Int) := by rw [List.length_map]; omega
    have hi1 := Int.emod_nonneg k1 (show ((cs.map D.int).length : Int) ≠ 0 by omega)
    have hi2 := Int.emod_lt_of_pos k1 hcl
    have hat : atI (cs.map D.int) (k1 % ((cs.map D.int).length : Int)) = some (.int (cs[(k1 % ((cs.map D.int).length : Int)).toNat]'(by rw [List.length_map] at hi1 hi2 ⊢; omega))) := by
      rw [at_nat hi1 (by omega)]
      simp
    generalize cs[(k1 % ((cs.map D.int).length : Int)).toNat]'(by rw [List.length_map] at hi1 hi2 ⊢; omega) = q at hat
    have m1 := Int.emod_nonneg (q * 48271 + k1 * 69621 + 1) (show (2147483647 : Int) ≠ 0 by decide)
    have m2 := Int.emod_lt_of_pos (q * 48271 + k1 * 69621 + 1) (show (0 : Int) < 2147483647 by decide)
    generalize hmx : (q * 48271 + k1 * 69621 + 1) % 2147483647 = mx at m1 m2
    have n1 := Int.emod_nonneg (mx * mx + mx * 16807 + k1 * 40014) (show (2147483629 : Int) ≠ 0 by decide)
    have n2 := Int.emod_lt_of_pos (mx * mx + mx * 16807 + k1 * 40014) (show (0 : Int) < 2147483629 by decide)
    refine ⟨(mx * mx + mx * 16807 + k1 * 40014) % 2147483629 / 32 % m, S2, x2, k1, gs2, [some (.loc l), some (.int m), none, some (.int q), some (.int mx)], ?_, Int.emod_nonneg _ (by omega), Int.emod_lt_of_pos _ hm, hB2, hO2⟩
    have c1 : CMulW q 48271 ∨ CMul q 48271 := cmul_small (by decide)
    have c2 : CMulW k1 69621 ∨ CMul k1 69621 := cmul_small (by decide)
    have c3 : CMulW mx mx ∨ CMul mx mx := cmul_small (by omega)
    have c4 : CMulW mx 16807 ∨ CMul mx 16807 := cmul_small (by decide)
    have c5 : CMulW k1 40014 ∨ CMul k1 40014 := cmul_small (by decide)
    have c6 : CDivW ((mx * mx + mx * 16807 + k1 * 40014) % 2147483629) 32 := wide_div (b := 8) (by decide) (by decide) (by decide) (by decide)
    walk_at "ev*"

/-! ### the bag's part of the store -/
/-- Sb holds the bag at l and nothing that leads out -/
structure Bag (Sb : Store) (l : Nat) : Prop where
  bag : ∃ g c x k gs cs, Bag3 Sb l g c x k gs cs
  cl : ∀ (j : Nat) (o : SO), Sb[j]? = some o → clO Sb.length o = true
theorem bag_app {Sb G : Store} {l g c : Nat} {x k : Int} {gs cs : List Int} (h : Bag3 Sb l g c x k gs cs) : Bag3 (Sb ++ G) l g c x k gs cs :=
  ⟨by rw [List.getElem?_append_left (get_lt h.hl)]; exact h.hl, by rw [List.getElem?_append_left (get_lt h.hg)]; exact h.hg, by rw [List.getElem?_append_left (get_lt h.hc)]; exact h.hc, h.ne, h.lg, h.lc, h.gc⟩
theorem off_app {Sb G S' : Store} {l g : Nat} (h : Off (Sb ++ G) S' l g) (hl : l < Sb.length) (hg : g < Sb.length) : ∃ Sb', S' = Sb' ++ G ∧ Off Sb Sb' l g := by
  refine ⟨S'.take Sb.length, ?_, ?_, ?_⟩
  · have : S'.drop Sb.length = G := by
      apply List.ext_getElem?
      intro j
      rw [List.getElem?_drop, h.same _ (by omega) (by omega), st_get]
    conv => lhs; rw [← List.take_append_drop Sb.length S', this]
  · rw [List.length_take, h.len, List.length_append]
    omega
  · intro j h1 h2
    by_cases hj : j < Sb.length
    · rw [List.getElem?_take_of_lt hj, h.same j h1 h2, List.getElem?_append_left hj]
    · rw [List.getElem?_eq_none (by rw [List.length_take]; omega), List.getElem?_eq_none (by omega)]
theorem clDs_ints (n : Nat) : ∀ gs : List Int, clDs n (gs.map .int) = true
  | [] => rfl
  | a :: gs => by
    rw [List.map_cons, clDs, clDs_ints n gs, Bool.and_true]
    rfl
mutual
theorem clD_up {n m : Nat} (h : n ≤ m) : ∀ d : D, clD n d = true → clD m d = true
  | .loc l, hd => by
    unfold clD at hd ⊢
    simp only [decide_eq_true_eq] at hd ⊢
    omega
  | .tup ds, hd => by unfold clD at hd ⊢; exact clDs_up h ds hd
  | .rls ds, hd => by unfold clD at hd ⊢; exact clDs_up h ds hd
  | .non, _ => rfl
  | .bl _, _ => rfl
  | .int _, _ => rfl
  | .str _, _ => rfl
theorem clDs_up {n m : Nat} (h : n ≤ m) : ∀ ds : List D, clDs n ds = true → clDs m ds = true
  | [], _ => rfl
  | d :: ds, hd => by
    unfold clDs at hd ⊢
    rw [Bool.and_eq_true] at hd ⊢
    exact ⟨clD_up h d hd.1, clDs_up h ds hd.2⟩
end
theorem cl_up {n m : Nat} (h : n ≤ m) : ∀ o : SO, clO n o = true → clO m o = true
  | .lst ds, ho => clDs_up h ds ho
/-- bag draws: the drawing function at l gives a number below m and keeps the bag -/
def DrawOk (P : Prg) (f : Nat) : Prop := ∀ (n : Nat) (Sb G : Store) (l : Nat) (m : Int), Bag Sb l → 0 < m → m.natAbs < 2 ^ 8000 →
  ∃ r Sb', callN P (n + 1) f [.loc l, .int m] (Sb ++ G) = .ok (.int r) (Sb' ++ G) ∧ 0 ≤ r ∧ r < m ∧ Bag Sb' l ∧ Sb'.length = Sb.length
theorem drawOk {P : Prg} {f : Nat} (hf : P f = some ⟨2, 5, B_draw, false⟩) : DrawOk P f := by
  intro n Sb G l m hB hm hm2
  obtain ⟨g, c, x, k, gs, cs, h⟩ := hB.bag
  obtain ⟨r, S', x', k', gs', e, h0, h1, h2, h3⟩ := draw3 hf n (Sb ++ G) l g c x k gs cs m (bag_app h) hm hm2
  obtain ⟨Sb', rfl, hO⟩ := off_app h3 (get_lt h.hl) (get_lt h.hg)
  refine ⟨r, Sb', e, h0, h1, ⟨⟨g, c, x', k', gs', cs, ?_⟩, ?_⟩, hO.len⟩
  · have hl := get_lt h.hl
    have hg := get_lt h.hg
    have hc := get_lt h.hc
    have hn := hO.len
    have a := h2.hl
    have b := h2.hg
    have d := h2.hc
    rw [List.getElem?_append_left (by omega)] at a b d
    exact ⟨a, b, d, h2.ne, h2.lg, h2.lc, h2.gc⟩
  · intro j o hj
    have hl := get_lt h.hl
    have hg := get_lt h.hg
    have hc := get_lt h.hc
    have hn := hO.len
    rw [hn]
    by_cases j1 : j = l
    · subst j1
      have a := h2.hl
      rw [List.getElem?_append_left (by omega), hj] at a
      cases a
      simp [clO, clDs, clD, hg, hc]
    · by_cases j2 : j = g
      · subst j2
        have a := h2.hg
        rw [List.getElem?_append_left (by omega), hj] at a
        cases a
        exact clDs_ints _ _
      · rw [hO.same j j1 j2] at hj
        exact hB.cl j o hj
/-- the same, at the end of a def that forgets -/
theorem end_trunc {fd : Fd} {Sb Sb' G : Store} {l : Nat} {r : Res (Flow × Env)} {d : D} {env : Env} (H : Store) (e : r = .ok (.ret d, env) (Sb' ++ (G ++ H))) (hp : fd.pure = true) (hB : Bag Sb' l) (hn : Sb'.length = Sb.length) (hd : clD (Sb ++ G).length d = true) : endF fd (Sb ++ G) r = .ok d (Sb' ++ G) := by
  rw [end_ret e hp ?_ hd]
  · congr 1
    rw [← List.append_assoc, List.take_append_of_le_length (by simp only [List.length_append]; omega)]
    rw [List.take_of_length_le (by simp only [List.length_append]; omega)]
  · refine ⟨by simp only [List.length_append]; omega, fun j hj => ?_⟩
    by_cases hj2 : j < Sb.length
    · right
      rw [List.getElem?_append_left (by omega)]
      have : j < Sb'.length := by omega
      refine ⟨Sb'[j], List.getElem?_eq_getElem this, ?_⟩
      have := hB.cl j _ (List.getElem?_eq_getElem this)
      refine cl_up ?_ _ this
      rw [List.length_append]
      omega
    · left
      rw [← List.append_assoc, List.getElem?_append_left (by rw [List.length_append] at hj ⊢; omega), List.getElem?_append_right (by omega), List.getElem?_append_right (by omega), hn]
/-! ### picking -/
def PickOk (P : Prg) (f : Nat) : Prop := ∀ (n : Nat) (Sb G : Store) (l j : Nat) (ds : List D), Bag Sb l → G[j]? = some (.lst ds) → ds ≠ [] → ds.length < 2 ^ 60 →
  ∃ d Sb', callN P (n + 2) f [.loc l, .loc (Sb.length + j)] (Sb ++ G) = .ok d (Sb' ++ G) ∧ d ∈ ds ∧ Bag Sb' l ∧ Sb'.length = Sb.length
def PickTOk (P : Prg) (f : Nat) : Prop := ∀ (n : Nat) (Sb G : Store) (l : Nat) (ds : List D), Bag Sb l → ds ≠ [] → ds.length < 2 ^ 60 →
  ∃ d Sb', callN P (n + 2) f [.loc l, .tup ds] (Sb ++ G) = .ok d (Sb' ++ G) ∧ d ∈ ds ∧ Bag Sb' l ∧ Sb'.length = Sb.length
theorem len_pos {α : Type} {ds : List α} (h : ds ≠ []) : 0 < ds.length := by cases ds with | nil => exact absurd rfl h | cons a b => simp
theorem small_abs {m : Nat} (h : m < 2 ^ 60) : (m : Int).natAbs < 2 ^ 8000 := by
  rw [Int.natAbs_natCast]
  exact Nat.lt_of_lt_of_le h (pow_le_pow (by decide))
theorem pickOk {P : Prg} {f g : Nat} (hf : P f = some ⟨2, 2, B_pick g, false⟩) (hg : DrawOk P g) : PickOk P f := by
  intro n Sb G l j ds hB hj hne hlen
  have hp := len_pos hne
  obtain ⟨r, Sb', e, h0, h1, h2, h3⟩ := hg n Sb G l (ds.length : Int) hB (by omega) (small_abs hlen)
  refine ⟨ds[r.toNat]'(by omega), Sb', ?_, List.getElem_mem _, h2, h3⟩
  rw [callN_eq (n + 1) _ _ hf rfl (Nat.le_of_ble_eq_true rfl)]
  refine end_any (env := [some (.loc l), some (.loc (Sb.length + j))]) ?_ rfl
  show exSs (callN P (n + 1)) (B_pick g) [some (.loc l), some (.loc (Sb.length + j))] (Sb ++ G) = _
  unfold B_pick
  have e1 : (Sb ++ G)[Sb.length + j]? = some (.lst ds) := by rw [st_get]; exact hj
  have e2 : (Sb' ++ G)[Sb.length + j]? = some (.lst ds) := by rw [← h3, st_get]; exact hj
  have e3 := at_nat (xs := ds) h0 (by omega)
  walk_at "ev*"
theorem pickTOk {P : Prg} {f g : Nat} (hf : P f = some ⟨2, 2, B_pick g, false⟩) (hg : DrawOk P g) : PickTOk P f := by
  intro n Sb G l ds hB hne hlen
  have hp := len_pos hne
  obtain ⟨r, Sb', e, h0, h1, h2, h3⟩ := hg n Sb G l (ds.length : Int) hB (by omega) (small_abs hlen)
  refine ⟨ds[r.toNat]'(by omega), Sb', ?_, List.getElem_mem _, h2, h3⟩
  rw [callN_eq (n + 1) _ _ hf rfl (Nat.le_of_ble_eq_true rfl)]
  refine end_any (env := [some (.loc l), some (.tup ds)]) ?_ rfl
  show exSs (callN P (n + 1)) (B_pick g) [some (.loc l), some (.tup ds)] (Sb ++ G) = _
  unfold B_pick
  have e3 := at_nat (xs := ds) h0 (by omega)
  walk_at "ev*"

/-! ### list comprehensions whose own scope reads nothing that changes -/
theorem lc_map (F : Fns) (env : Env) (S : Store) (t : Tg) (own : List Nat) (elt : E) (w : Walk) (hw : w.here S) (g : D → D) : ∀ (items acc : List D), acc.length + items.length < LINE →
    (∀ d ∈ items, ∃ env1, asgT t d S (wipeE env own) = some env1 ∧ evE F elt env1 S = .ok (g d) S) →
    lcS F env t own .nil elt w items acc S = .ok (acc ++ items.map g) S
  | [], acc, _, _ => by rw [lc_nil _ _ _ _ _ _ _ _ _ hw, List.map_nil, List.append_nil]
  | d :: ds, acc, hl, h => by
    obtain ⟨env1, e1, e2⟩ := h d (List.mem_cons_self ..)
    rw [List.length_cons] at hl
    rw [lc_cons _ _ _ _ _ _ _ _ _ _ _ hw, e1]
    unfold lcT
    dsimp only
    rw [vT_nil, bnd_ok]
    unfold lcB
    rw [if_pos rfl, e2, bnd_ok, if_pos (by omega)]
    rw [lc_map F env S t own elt w hw g ds (acc ++ [g d]) (by rw [List.length_append]; simp only [List.length_cons, List.length_nil]; omega) (fun x hx => h x (List.mem_cons_of_mem _ hx))]
    rw [List.map_cons, List.append_assoc]
    rfl
theorem lc_filt (F : Fns) (env : Env) (S : Store) (t : Tg) (own : List Nat) (test elt : E) (w : Walk) (hw : w.here S) (p : D → Bool) (g : D → D) : ∀ (items acc : List D), acc.length + items.length < LINE →
    (∀ d ∈ items, ∃ env1, asgT t d S (wipeE env own) = some env1 ∧ truR (evE F test env1 S) = .ok (p d) S ∧ (p d = true → evE F elt env1 S = .ok (g d) S)) →
    lcS F env t own (.cons test .nil) elt w items acc S = .ok (acc ++ (items.filter p).map g) S
  | [], acc, _, _ => by rw [lc_nil _ _ _ _ _ _ _ _ _ hw, List.filter_nil, List.map_nil, List.append_nil]
  | d :: ds, acc, hl, h => by
    obtain ⟨env1, e1, e2, e3⟩ := h d (List.mem_cons_self ..)
    rw [List.length_cons] at hl
    rw [lc_cons _ _ _ _ _ _ _ _ _ _ _ hw, e1]
    unfold lcT
    dsimp only
    rw [vT_cons, e2, bnd_ok]
    unfold lcB
    cases hp : p d with
    | false =>
      rw [if_neg (by decide)]
      rw [lc_filt F env S t own test elt w hw p g ds acc (by omega) (fun x hx => h x (List.mem_cons_of_mem _ hx))]
      rw [List.filter_cons_of_neg (by rw [hp]; decide)]
    | true =>
      rw [if_pos rfl, e3 hp, bnd_ok, if_pos (by omega)]
      rw [lc_filt F env S t own test elt w hw p g ds (acc ++ [g d]) (by rw [List.length_append]; simp only [List.length_cons, List.length_nil]; omega) (fun x hx => h x (List.mem_cons_of_mem _ hx))]
      rw [List.filter_cons_of_pos hp, List.map_cons, List.append_assoc]
      rfl
end
end SX
namespace SX
open PySem PySem.Spec PyProof.Rows L2
noncomputable section
open Classical
local macro_rules | `(tactic| walk_at "ev") => `(tactic| simp (config := { maxSteps := 3000000 }) (disch := first | assumption | omega | exact ⟨by omega, by omega⟩ | exact ⟨⟨by omega, by omega⟩, ⟨by omega, by omega⟩⟩ | exact Nat.le_of_ble_eq_true rfl | decide) only [bnd_ok, bnd_bad, binJ_eq, binK_eq, notK_eq, cmpJ_eq, cmpK_eq, idxJ_eq, idxK_eq, calJ_eq, clkJ_eq, clkK_eq, priJ_eq, isiJ_eq, metJ_eq, metI_t, metK_eq, lcJ_eq, lcK_eq, conJ_eq, conK_eq, andJ_eq, orJ_eq, rg2J_eq, nxtK_eq, setI1_eq, setI2_eq, setI3_eq, retK_eq,  vE_var, varK_ok, vE_int, vE_bl, vE_non, vE_str, vE_tup, vE_lst, vE_bin, vE_neg, vE_not, vE_and, vE_or, vE_cmp, vE_ite, brE_t, brE_f, vE_idx, vE_slc, vE_call, vE_callk, vE_prim, vE_isin, vE_meth, vE_lc, vE_gcon, toD_int, toD_strs, vE_chain, chnI_eq, chnK_eq, chnJ_t, chnJ_f, vE_tupG, tgJ_eq, tgK_eq, vE_qual, qlK_eq, vE_sumG, smK_eq, vE_lc2, l2K_eq, vEs_nil, vEs_cons, vA_one, vA_cons, vO_one, vO_cons, andK_t, andK_f, orK_t, orK_f, vT_nil, vT_cons, vI_seq, seqK_tup, seqK_rls, seqK_loc, seqL_ok, vI_range1, rg1_int, vI_range2, rg2_int,
  xS_asg, asgK_nm, asgT_nm, asgT_tp2, asgT_tp3, asgK_tp2, asgK_tp3, xS_par, parK_2, parK_3, xS_setS, xS_aug, augV_ok, augK_add, augK_sub, xS_augS, agR_some, agD_eq, agX_eq, agI_eq, agO_eq, idxM_loc, augD_add, augD_sub, xS_expr, xS_ret, xS_retN, xS_ite, brS_t, brS_f, xS_wh, whB_t, whB_f, whK_n, whK_c, whK_b, whK_r, xS_fo, foT_some, foK_n, foK_c, foK_b, foK_r, xS_brk, xS_cont, xS_pass, xSs_nil, xSs_cons, sqK_n, sqK_r, sqK_b, sqK_c,
  b_add, b_sub, b_mul, b_mulL, b_mulR, b_fdiv, b_mod, b_pow, b_addT, b_addL, addL_ok, b_repT, k_lt, k_le, k_gt, k_ge, k_eq, k_ne, k_isN, k_notN, k_in, k_nin, tr_str, q_int, q_bl, q_str, ofB_some, Option.map_some, tr_bl, tr_int, tr_non, tr_tup, tr_loc, trK_ok, td_bl, td_int, td_tup, i_tup, i_rls, i_loc, idxL_ok, okV_some, at0, at1, at2, at3, at_m1, tupK_ok, lstK_ok, negK_int, p_abs, p_int, p_intB, p_lenT, p_lenR, p_lenL, lenL_ok, p_max, p_min, p_tupT, p_tupL, tupL_ok, p_lstT, p_lstL, lstL_ok, isD_ok, m_app, appL_ok, m_pop, popL_ok, m_rev, revL_ok, recv_ok, recvL_ok, set_loc, setL_ok, setI_ok, new_eq, Bool.not_true, Bool.not_false, if_true, eq_self, decide_true, decide_false,
  List.set_cons_zero, List.set_cons_succ, List.getElem?_cons_zero, List.getElem?_cons_succ, List.length_cons, List.length_nil, Option.some.injEq])
local macro_rules | `(tactic| walk_at "ev*") => `(tactic| simp (config := { maxSteps := 3000000 }) (disch := first | assumption | omega | exact ⟨by omega, by omega⟩ | exact ⟨⟨by omega, by omega⟩, ⟨by omega, by omega⟩⟩ | exact Nat.le_of_ble_eq_true rfl | decide) only [bnd_ok, bnd_bad, binJ_eq, binK_eq, notK_eq, cmpJ_eq, cmpK_eq, idxJ_eq, idxK_eq, calJ_eq, clkJ_eq, clkK_eq, priJ_eq, isiJ_eq, metJ_eq, metI_t, metK_eq, lcJ_eq, lcK_eq, conJ_eq, conK_eq, andJ_eq, orJ_eq, rg2J_eq, nxtK_eq, setI1_eq, setI2_eq, setI3_eq, retK_eq,  vE_var, varK_ok, vE_int, vE_bl, vE_non, vE_str, vE_tup, vE_lst, vE_bin, vE_neg, vE_not, vE_and, vE_or, vE_cmp, vE_ite, brE_t, brE_f, vE_idx, vE_slc, vE_call, vE_callk, vE_prim, vE_isin, vE_meth, vE_lc, vE_gcon, toD_int, toD_strs, vE_chain, chnI_eq, chnK_eq, chnJ_t, chnJ_f, vE_tupG, tgJ_eq, tgK_eq, vE_qual, qlK_eq, vE_sumG, smK_eq, vE_lc2, l2K_eq, vEs_nil, vEs_cons, vA_one, vA_cons, vO_one, vO_cons, andK_t, andK_f, orK_t, orK_f, vT_nil, vT_cons, vI_seq, seqK_tup, seqK_rls, seqK_loc, seqL_ok, vI_range1, rg1_int, vI_range2, rg2_int,
  xS_asg, asgK_nm, asgT_nm, asgT_tp2, asgT_tp3, asgK_tp2, asgK_tp3, xS_par, parK_2, parK_3, xS_setS, xS_aug, augV_ok, augK_add, augK_sub, xS_augS, agR_some, agD_eq, agX_eq, agI_eq, agO_eq, idxM_loc, augD_add, augD_sub, xS_expr, xS_ret, xS_retN, xS_ite, brS_t, brS_f, xS_wh, whB_t, whB_f, whK_n, whK_c, whK_b, whK_r, xS_fo, foT_some, foK_n, foK_c, foK_b, foK_r, xS_brk, xS_cont, xS_pass, xSs_nil, xSs_cons, sqK_n, sqK_r, sqK_b, sqK_c,
  b_add, b_sub, b_mul, b_mulL, b_mulR, b_fdiv, b_mod, b_pow, b_addT, b_addL, addL_ok, b_repT, k_lt, k_le, k_gt, k_ge, k_eq, k_ne, k_isN, k_notN, k_in, k_nin, tr_str, q_int, q_bl, q_str, ofB_some, Option.map_some, tr_bl, tr_int, tr_non, tr_tup, tr_loc, trK_ok, td_bl, td_int, td_tup, i_tup, i_rls, i_loc, idxL_ok, okV_some, at0, at1, at2, at3, at_m1, tupK_ok, lstK_ok, negK_int, p_abs, p_int, p_intB, p_lenT, p_lenR, p_lenL, lenL_ok, p_max, p_min, p_tupT, p_tupL, tupL_ok, p_lstT, p_lstL, lstL_ok, isD_ok, m_app, appL_ok, m_pop, popL_ok, m_rev, revL_ok, recv_ok, recvL_ok, set_loc, setL_ok, setI_ok, new_eq, Bool.not_true, Bool.not_false, if_true, eq_self, decide_true, decide_false,
  List.set_cons_zero, List.set_cons_succ, List.getElem?_cons_zero, List.getElem?_cons_succ, List.length_cons, List.length_nil, Option.some.injEq, *])
local macro_rules | `(tactic| walk_at "evs") => `(tactic| simp (config := { maxSteps := 3000000 }) (disch := first | assumption | omega | exact ⟨by omega, by omega⟩ | exact ⟨⟨by omega, by omega⟩, ⟨by omega, by omega⟩⟩ | exact Nat.le_of_ble_eq_true rfl | decide) only [bnd_ok, bnd_bad, binJ_eq, binK_eq, notK_eq, cmpJ_eq, cmpK_eq, idxJ_eq, idxK_eq, calJ_eq, clkJ_eq, clkK_eq, priJ_eq, isiJ_eq, metJ_eq, metI_t, metK_eq, lcJ_eq, lcK_eq, conJ_eq, conK_eq, andJ_eq, orJ_eq, rg2J_eq, nxtK_eq, setI1_eq, setI2_eq, setI3_eq, retK_eq,  vE_var, varK_ok, vE_int, vE_bl, vE_non, vE_str, vE_tup, vE_lst, vE_bin, vE_neg, vE_not, vE_and, vE_or, vE_cmp, vE_ite, brE_t, brE_f, vE_idx, vE_slc, vE_call, vE_callk, vE_prim, vE_isin, vE_meth, vE_lc, vE_gcon, toD_int, toD_strs, vE_chain, chnI_eq, chnK_eq, chnJ_t, chnJ_f, vE_tupG, tgJ_eq, tgK_eq, vE_qual, qlK_eq, vE_sumG, smK_eq, vE_lc2, l2K_eq, vEs_nil, vEs_cons, vA_one, vA_cons, vO_one, vO_cons, andK_t, andK_f, orK_t, orK_f, vT_nil, vT_cons, vI_seq, seqK_tup, seqK_rls, seqK_loc, seqL_ok, vI_range1, rg1_int, vI_range2, rg2_int,
  xS_asg, asgK_nm, asgT_nm, asgT_tp2, asgT_tp3, asgK_tp2, asgK_tp3, xS_par, parK_2, parK_3, xS_setS, xS_aug, augV_ok, augK_add, augK_sub, xS_augS, agR_some, agD_eq, agX_eq, agI_eq, agO_eq, idxM_loc, augD_add, augD_sub, xS_expr, xS_ret, xS_retN, xS_ite, brS_t, brS_f, xS_wh, whB_t, whB_f, whK_n, whK_c, whK_b, whK_r, xS_fo, foT_some, foK_n, foK_c, foK_b, foK_r, xS_brk, xS_cont, xS_pass, xSs_nil, xSs_cons, sqK_n, sqK_r, sqK_b, sqK_c,
  b_add, b_sub, b_mul, b_mulL, b_mulR, b_fdiv, b_mod, b_pow, b_addT, b_addL, addL_ok, b_repT, k_lt, k_le, k_gt, k_ge, k_eq, k_ne, k_isN, k_notN, k_in, k_nin, tr_str, q_int, q_bl, q_str, ofB_some, Option.map_some, tr_bl, tr_int, tr_non, tr_tup, tr_loc, trK_ok, td_bl, td_int, td_tup, i_tup, i_rls, i_loc, idxL_ok, okV_some, at0, at1, at2, at3, at_m1, tupK_ok, lstK_ok, negK_int, p_abs, p_int, p_intB, p_lenT, p_lenR, p_lenL, lenL_ok, p_max, p_min, p_tupT, p_tupL, tupL_ok, p_lstT, p_lstL, lstL_ok, isD_ok, m_app, appL_ok, m_pop, popL_ok, m_rev, revL_ok, recv_ok, recvL_ok, set_loc, setL_ok, setI_ok, new_eq, Bool.not_true, Bool.not_false, if_true, eq_self, decide_true, decide_false,
  List.set_cons_zero, List.set_cons_succ, List.getElem?_cons_zero, List.getElem?_cons_succ, List.length_cons, List.length_nil, Option.some.injEq, List.cons_append, List.nil_append, List.append_assoc, Nat.reduceAdd, st_get, st_get0, st_set, st_set0, List.length_append, Nat.add_zero, Nat.zero_add, *])

/-! ### the bag is laid -/
theorem rev_ints (gs : List Int) : (gs.map D.int).reverse = gs.reverse.map .int := by rw [List.map_reverse]
theorem filter_ints (p : Int → Bool) (q : D → Bool) (h : ∀ i, q (.int i) = p i) : ∀ xs : List Int, (xs.map D.int).filter q = (xs.filter p).map .int
  | [] => rfl
  | x :: xs => by
    rw [List.map_cons, List.filter_cons, List.filter_cons, h, filter_ints p q h xs]
    cases p x <;> rfl
def bagS0 (ns T : List Int) (a : List SO) : Store := [.lst (ns.map fun (i : Int) => D.int (i.natAbs : Int)), .lst [.int 7], .lst (T.map D.int)] ++ a
def dInt : D → Int
  | .int i => i
  | _ => 0
theorem map_dInt (h : Int → Int) (xs : List Int) : (xs.map D.int).map (fun d => D.int (h (dInt d))) = (xs.map h).map D.int := by
  rw [List.map_map, List.map_map]
  rfl
theorem e_bag {P : Prg} {f : Nat} (hf : P f = some ⟨1, 4, B_bag, false⟩) (n : Nat) (ns : List Int) (hn : ns.length ≤ 1000) :
    ∃ Sb l, callN P (n + 1) f [.rls (ns.map .int)] [] = .ok (.loc l) Sb ∧ Bag Sb l := by
  rw [callN_eq n _ _ hf rfl (Nat.le_of_ble_eq_true rfl)]
  suffices HH : ∃ Sb l env, exSs (callN P n) B_bag [some (.rls (ns.map .int)), none, none, none] [] = .ok (.ret (.loc l), env) Sb ∧ Bag Sb l by
    obtain ⟨Sb, l, env, h, h2⟩ := HH
    exact ⟨Sb, l, end_any h rfl, h2⟩
  unfold B_bag
  let T : List Int := ns.map (fun i => (i.natAbs : Int)) ++ [7]
  have hT : ns.map (fun i => (i.natAbs : Int)) ++ [7] = T := rfl
  have hTl : T.length = ns.length + 1 := by rw [← hT, List.length_append, List.length_map]; rfl
  have L0 : LINE = 16777216 := rfl
  have l1 := lc_map (callN P n) [some (.rls (ns.map .int)), none, none, none] [] (.nm 3) [3] (.prim .abs (.cons (.prim .int (.cons (.var 3) .nil)) .nil)) ⟨ns.map .int, none⟩ True.intro (fun d => .int ((dInt d).natAbs : Int)) (ns.map .int) [] (by rw [List.length_map]; simp only [List.length_nil]; omega) (fun d hd => by
    obtain ⟨i, hi, rfl⟩ := List.mem_map.mp hd
    refine ⟨[some (.rls (ns.map .int)), none, none, some (.int i)], rfl, ?_⟩
    walk_at "ev"
    rfl)
  rw [map_dInt (fun i => (i.natAbs : Int)), List.nil_append] at l1
  have e0 : 0 < T.length := by omega
  have e0' : atI (T.map D.int) 0 = some (.int T[0]) := by
    rw [at_nat (by decide) (by rw [List.length_map]; exact e0)]
    simp
  have hlen : (List.map D.int (List.map (fun i => ((i.natAbs : Int))) ns)).length + ([D.int 7] : List D).length ≤ LINE := by rw [List.length_map, List.length_map]; simp only [List.length_cons, List.length_nil]; omega
  have hS : (List.map D.int (List.map (fun i => ((i.natAbs : Int))) ns)) ++ [D.int 7] = T.map D.int := by rw [← hT, List.map_append]; rfl
  rw [xSs_cons]
  have s1 : exS (callN P n) (.asg (.nm 1) (.bin .add (.lc (.prim .abs (.cons (.prim .int (.cons (.var 3) .nil)) .nil)) (.nm 3) (.seq (.var 0)) .nil [3]) (.lst (.cons (.cint 7) .nil)))) [some (.rls (ns.map .int)), none, none, none] []
      = .ok (.next, [some (.rls (ns.map .int)), some (.loc 2), none, none]) [.lst ((ns.map (fun i => (i.natAbs : Int))).map D.int), .lst [.int 7], .lst (T.map D.int)] := by
    walk_at "ev"
    rw [l1]
    walk_at "ev"
    show (addL _ (some (.lst _)) (some (.lst _))).bnd _ = _
    rw [addL_ok _ hlen, hS]
    rfl
  rw [s1, bnd_ok, sqK_n]
  generalize (ns.map (fun i => (i.natAbs : Int))) = A0
  clear s1 l1 hlen hS hT
  -- the rests
  have l3 : ∀ (S : Store) (env : Env) (w : Walk), w.here S → (∀ i : Int, asgT (.nm 3) (.int i) S (wipeE env [3]) = some (env.set 3 (some (.int i)))) → env.length = 4 → lcS (callN P n) env (.nm 3) [3] .nil (.bin .mod (.prim .int (.cons (.var 3) .nil)) (.cint 2147483647)) w (T.map D.int) [] S = .ok ((T.map (· % 2147483647)).map D.int) S := by
    intro S env w hw hq hle
    have := lc_map (callN P n) env S (.nm 3) [3] (.bin .mod (.prim .int (.cons (.var 3) .nil)) (.cint 2147483647)) w hw (fun d => .int (dInt d % 2147483647)) (T.map .int) [] (by rw [List.length_map]; simp only [List.length_nil]; omega) (fun d hd => by
      obtain ⟨i, hi, rfl⟩ := List.mem_map.mp hd
      refine ⟨_, hq i, ?_⟩
      have e3 : (env.set 3 (some (D.int i)))[3]? = some (some (.int i)) := List.getElem?_set_self (by omega)
      walk_at "ev*"
      rfl)
    rw [map_dInt (fun i => i % 2147483647), List.nil_append] at this
    exact this
  have l2 : ∀ (S : Store) (env : Env) (w : Walk), w.here S → (∀ i : Int, asgT (.nm 3) (.int i) S (wipeE env [3]) = some (env.set 3 (some (.int i)))) → env.length = 4 → lcS (callN P n) env (.nm 3) [3] (.cons (.cmp .ge (.var 3) (.bin .pow (.cint 10) (.cint 18))) .nil) (.bin .fdiv (.var 3) (.cint 2)) w (T.map D.int) [] S = .ok (((T.filter fun i => decide (10 ^ 18 ≤ i)).map (· / 2)).map D.int) S := by
    intro S env w hw hq hle
    have := lc_filt (callN P n) env S (.nm 3) [3] (.cmp .ge (.var 3) (.bin .pow (.cint 10) (.cint 18))) (.bin .fdiv (.var 3) (.cint 2)) w hw (fun d => decide (10 ^ 18 ≤ dInt d)) (fun d => .int (dInt d / 2)) (T.map .int) [] (by rw [List.length_map]; simp only [List.length_nil]; omega) (fun d hd => by
      obtain ⟨i, hi, rfl⟩ := List.mem_map.mp hd
      have e3 : (env.set 3 (some (D.int i)))[3]? = some (some (.int i)) := List.getElem?_set_self (by omega)
      have c1 : CPow 10 18 := ⟨by decide, by decide, by decide⟩
      have c2 : CDivW i 2 := wide_div (b := 8) (by decide) (by decide) (by decide) (by decide)
      refine ⟨_, hq i, ?_, fun _ => ?_⟩
      · walk_at "ev*"
        rfl
      · walk_at "ev*"
        rfl)
    rw [filter_ints (fun i => decide (10 ^ 18 ≤ i)) _ (fun i => rfl), map_dInt (fun i => i / 2), List.nil_append] at this
    exact this
  have hCne : T.map (· % 2147483647) ≠ [] := fun z => by
    have := congrArg List.length z
    rw [List.length_map] at this
    simp only [List.length_nil] at this
    omega
  generalize (T.map (· % 2147483647)) = C at l3 hCne
  generalize ((T.filter fun i => decide (10 ^ 18 ≤ i)).map (· / 2)) = G at l2
  by_cases hev : T[0] % 2 = 0
  · refine ⟨[.lst (A0.map .int), .lst [.int 7], .lst (T.map D.int), .lst [], .lst (G.reverse.map .int), .lst (C.map .int), .lst [.int 0, .int 0, .loc 4, .loc 5]], 6, [some (.rls (ns.map .int)), some (.loc 2), some (.loc 4), none], ?_, ⟨4, 5, 0, 0, G.reverse, C, rfl, rfl, rfl, hCne, by decide, by decide, by decide⟩, ?_⟩
    · have q2 := l2 [.lst (A0.map .int), .lst [.int 7], .lst (T.map D.int), .lst []] [some (.rls (ns.map .int)), some (.loc 2), some (.loc 3), none] ⟨T.map .int, some 2⟩ rfl (fun i => rfl) rfl
      have q3 := l3 [.lst (A0.map .int), .lst [.int 7], .lst (T.map D.int), .lst [], .lst (G.reverse.map .int)] [some (.rls (ns.map .int)), some (.loc 2), some (.loc 4), none] ⟨T.map .int, some 2⟩ rfl (fun i => rfl) rfl
      have q4 := rev_ints G
      walk_at "evs"
    · intro j o hj
      rcases j with _ | _ | _ | _ | _ | _ | _ | j
      all_goals first
        | (simp only [List.getElem?_cons_zero, List.getElem?_cons_succ, Option.some.injEq] at hj; subst hj; first | exact clDs_ints _ _ | rfl)
        | (simp only [List.getElem?_cons_zero, List.getElem?_cons_succ, List.getElem?_nil] at hj; cases hj)
  · refine ⟨[.lst (A0.map .int), .lst [.int 7], .lst (T.map D.int), .lst [], .lst (C.map .int), .lst [.int 0, .int 0, .loc 3, .loc 4]], 5, [some (.rls (ns.map .int)), some (.loc 2), some (.loc 3), none], ?_, ⟨3, 4, 0, 0, [], C, rfl, rfl, rfl, hCne, by decide, by decide, by decide⟩, ?_⟩
    · have q3 := l3 [.lst (A0.map .int), .lst [.int 7], .lst (T.map D.int), .lst []] [some (.rls (ns.map .int)), some (.loc 2), some (.loc 3), none] ⟨T.map .int, some 2⟩ rfl (fun i => rfl) rfl
      walk_at "evs"
    · intro j o hj
      rcases j with _ | _ | _ | _ | _ | _ | j
      all_goals first
        | (simp only [List.getElem?_cons_zero, List.getElem?_cons_succ, Option.some.injEq] at hj; subst hj; first | exact clDs_ints _ _ | rfl)
        | (simp only [List.getElem?_cons_zero, List.getElem?_cons_succ, List.getElem?_nil] at hj; cases hj)

/-! ### likeness -/
mutual
def plain : D → Bool
  | .loc _ => false
  | .rls _ => false
  | .tup ds => plains ds && decide (ds.length < 4611686018427387904)
  | _ => true
def plains : List D → Bool
  | [] => true
  | d :: ds => plain d && plains ds
end
mutual
def depD : D → Nat
  | .tup ds => depDs ds + 1
  | _ => 0
def depDs : List D → Nat
  | [] => 0
  | d :: ds => max (depD d) (depDs ds)
end
theorem dep_mem : ∀ (ds : List D) (d : D), d ∈ ds → depD d ≤ depDs ds
  | e :: ds, d, h => by
    unfold depDs
    rcases List.mem_cons.mp h with rfl | h
    · omega
    · have := dep_mem ds d h
      omega
theorem plain_mem : ∀ (ds : List D), plains ds = true → ∀ d, d ∈ ds → plain d = true
  | e :: ds, hp, d, h => by
    unfold plains at hp
    rw [Bool.and_eq_true] at hp
    rcases List.mem_cons.mp h with rfl | h
    · exact hp.1
    · exact plain_mem ds hp.2 d h
theorem rng_cons {lo hi : Int} (h : lo < hi) : rngK lo hi = .int lo :: rngK (lo + 1) hi := by
  unfold rngK
  obtain ⟨m, hm⟩ : ∃ m, (hi - lo).toNat = m + 1 := ⟨(hi - lo).toNat - 1, by omega⟩
  rw [hm, show (hi - (lo + 1)).toNat = m by omega, List.range_succ_eq_map, List.map_cons, List.map_map]
  congr 1
  · simp
  · apply List.map_congr_left
    intro k hk
    show D.int (lo + ((k + 1 : Nat) : Int)) = D.int (lo + 1 + (k : Int))
    congr 1
    omega
theorem rng_nil {lo hi : Int} (h : hi ≤ lo) : rngK lo hi = [] := by
  unfold rngK
  rw [show (hi - lo).toNat = 0 by omega]
  rfl
theorem len62 {n : Nat} (h : n < 4611686018427387904) : R62 (n : Int) := ⟨by omega, by omega⟩
def SameOk (P : Prg) (f : Nat) : Prop := ∀ (k n : Nat) (d : D) (S : Store), plain d = true → depD d ≤ k → callN P (n + k + 1) f [d, d] S = .ok (.bl true) S
theorem sameOk {P : Prg} {f : Nat} (hf : P f = some ⟨2, 3, B_same f, true⟩) : SameOk P f := by
  intro k
  induction k with
  | zero =>
    intro n d S hp hd
    rw [callN_eq _ _ _ hf rfl (Nat.le_of_ble_eq_true rfl)]
    refine end_pure (env := [some d, some d, none]) ?_ rfl rfl
    show exSs (callN P (n + 0)) (B_same f) [some d, some d, none] S = _
    unfold B_same
    cases d with
    | loc l => cases hp
    | rls l => cases hp
    | tup ds => unfold depD at hd; omega
    | non =>
      have e : isNonD .non = true := rfl
      walk_at "ev*"
    | bl b =>
      have e : isNonD (.bl b) = false := rfl
      have e1 : isK .bool (kdD (.bl b)) = true := rfl
      walk_at "ev*"
    | int i =>
      have e : isNonD (.int i) = false := rfl
      have e1 : isK .bool (kdD (.int i)) = false := rfl
      have e2 : isK .int (kdD (.int i)) = true := rfl
      walk_at "ev*"
    | str i =>
      have e : isNonD (.str i) = false := rfl
      have e1 : isK .bool (kdD (.str i)) = false := rfl
      have e2 : isK .int (kdD (.str i)) = false := rfl
      have e3 : isK .str (kdD (.str i)) = true := rfl
      walk_at "ev*"
  | succ k ih =>
    intro n d S hp hd
    by_cases ht : ∃ ds, d = .tup ds
    · obtain ⟨ds, rfl⟩ := ht
      rw [callN_eq _ _ _ hf rfl (Nat.le_of_ble_eq_true rfl)]
      unfold depD at hd
      unfold plain at hp
      rw [Bool.and_eq_true, decide_eq_true_eq] at hp
      obtain ⟨hp, hpl⟩ := hp
      have loop : ∀ (w : Walk) (hw : w.here S) (m : Nat) (lo : Nat) (o : Option D), lo + m = ds.length → ∃ o', foS (callN P (n + k + 1)) (.nm 2) (.cons (.ite (.not (.call f (.cons (.idx (.var 0) (.var 2)) (.cons (.idx (.var 1) (.var 2)) .nil)))) (.cons (.ret (.cbl false)) .nil) .nil) .nil) w (rngK (lo : Int) (ds.length : Int)) [some (.tup ds), some (.tup ds), o] S
          = .ok (.next, [some (.tup ds), some (.tup ds), o']) S := by
        intro w hw m
        induction m with
        | zero =>
          intro lo o hlo
          rw [rng_nil (by omega)]
          exact ⟨o, fo_nil _ _ _ _ _ _ hw⟩
        | succ m ihm =>
          intro lo o hlo
          rw [rng_cons (by omega), fo_cons _ _ _ _ _ _ _ _ hw]
          obtain ⟨o', h'⟩ := ihm (lo + 1) (some (.int lo)) (by omega)
          refine ⟨o', ?_⟩
          rw [Int.natCast_add] at h'
          have e1 := at_nat (xs := ds) (i := (lo : Int)) (by omega) (by omega)
          have hm : ds[(lo : Int).toNat]'(by omega) ∈ ds := List.getElem_mem _
          generalize ds[(lo : Int).toNat]'(by omega) = d at hm e1
          have e2 := ih n d S (plain_mem _ hp _ hm) (by have := dep_mem _ _ hm; omega)
          simp only [asgT]
          walk_at "ev*"
          exact h'
      obtain ⟨o', hl⟩ := loop ⟨rngK 0 (ds.length : Int), none⟩ (here_none _ _) ds.length 0 none (by omega)
      refine end_pure (env := [some (.tup ds), some (.tup ds), o']) ?_ rfl rfl
      show exSs (callN P (n + k + 1)) (B_same f) [some (.tup ds), some (.tup ds), none] S = _
      unfold B_same
      have e : isNonD (.tup ds) = false := rfl
      have e1 : isK .bool (kdD (.tup ds)) = false := rfl
      have e2 : isK .int (kdD (.tup ds)) = false := rfl
      have e3 : isK .str (kdD (.tup ds)) = false := rfl
      have e4 : isK .tuple (kdD (.tup ds)) = true := rfl
      have hr : R62 (ds.length : Int) := len62 hpl
      clear ih loop hf
      rw [show ((0 : Nat) : Int) = 0 from rfl] at hl
      walk_at "ev*"
    · have : depD d ≤ k := by
        cases d with
        | tup ds => exact absurd ⟨ds, rfl⟩ ht
        | _ => exact Nat.zero_le _
      have := ih (n + 1) d S hp this
      rw [show n + 1 + k + 1 = n + (k + 1) + 1 by omega] at this
      exact this
end
end SX
namespace SX
open PySem PySem.Spec PyProof.Rows L2
noncomputable section
open Classical
local macro_rules | `(tactic| walk_at "ev") => `(tactic| simp (config := { maxSteps := 3000000 }) (disch := first | assumption | omega | exact ⟨by omega, by omega⟩ | exact ⟨⟨by omega, by omega⟩, ⟨by omega, by omega⟩⟩ | exact Nat.le_of_ble_eq_true rfl | decide) only [bnd_ok, bnd_bad, binJ_eq, binK_eq, notK_eq, cmpJ_eq, cmpK_eq, idxJ_eq, idxK_eq, calJ_eq, clkJ_eq, clkK_eq, priJ_eq, isiJ_eq, metJ_eq, metI_t, metK_eq, lcJ_eq, lcK_eq, conJ_eq, conK_eq, andJ_eq, orJ_eq, rg2J_eq, nxtK_eq, setI1_eq, setI2_eq, setI3_eq, retK_eq,  vE_var, varK_ok, vE_int, vE_bl, vE_non, vE_str, vE_tup, vE_lst, vE_bin, vE_neg, vE_not, vE_and, vE_or, vE_cmp, vE_ite, brE_t, brE_f, vE_idx, vE_slc, vE_call, vE_callk, vE_prim, vE_isin, vE_meth, vE_lc, vE_gcon, toD_int, toD_strs, vE_chain, chnI_eq, chnK_eq, chnJ_t, chnJ_f, vE_tupG, tgJ_eq, tgK_eq, vE_qual, qlK_eq, vE_sumG, smK_eq, vE_lc2, l2K_eq, vEs_nil, vEs_cons, vA_one, vA_cons, vO_one, vO_cons, andK_t, andK_f, orK_t, orK_f, vT_nil, vT_cons, vI_seq, seqK_tup, seqK_rls, seqK_loc, seqL_ok, vI_range1, rg1_int, vI_range2, rg2_int,
  xS_asg, asgK_nm, asgT_nm, asgT_tp2, asgT_tp3, asgK_tp2, asgK_tp3, xS_par, parK_2, parK_3, xS_setS, xS_aug, augV_ok, augK_add, augK_sub, xS_augS, agR_some, agD_eq, agX_eq, agI_eq, agO_eq, idxM_loc, augD_add, augD_sub, xS_expr, xS_ret, xS_retN, xS_ite, brS_t, brS_f, xS_wh, whB_t, whB_f, whK_n, whK_c, whK_b, whK_r, xS_fo, foT_some, foK_n, foK_c, foK_b, foK_r, xS_brk, xS_cont, xS_pass, xSs_nil, xSs_cons, sqK_n, sqK_r, sqK_b, sqK_c,
  b_add, b_sub, b_mul, b_mulL, b_mulR, b_fdiv, b_mod, b_pow, b_addT, b_addL, addL_ok, b_repT, k_lt, k_le, k_gt, k_ge, k_eq, k_ne, k_isN, k_notN, k_in, k_nin, tr_str, q_int, q_bl, q_str, ofB_some, Option.map_some, tr_bl, tr_int, tr_non, tr_tup, tr_loc, trK_ok, td_bl, td_int, td_tup, i_tup, i_rls, i_loc, idxL_ok, okV_some, at0, at1, at2, at3, at_m1, tupK_ok, lstK_ok, negK_int, p_abs, p_int, p_intB, p_lenT, p_lenR, p_lenL, lenL_ok, p_max, p_min, p_tupT, p_tupL, tupL_ok, p_lstT, p_lstL, lstL_ok, isD_ok, m_app, appL_ok, m_pop, popL_ok, m_rev, revL_ok, recv_ok, recvL_ok, set_loc, setL_ok, setI_ok, new_eq, Bool.not_true, Bool.not_false, if_true, eq_self, decide_true, decide_false,
  List.set_cons_zero, List.set_cons_succ, List.getElem?_cons_zero, List.getElem?_cons_succ, List.length_cons, List.length_nil, Option.some.injEq])
local macro_rules | `(tactic| walk_at "ev*") => `(tactic| simp (config := { maxSteps := 3000000 }) (disch := first | assumption | omega | exact ⟨by omega, by omega⟩ | exact ⟨⟨by omega, by omega⟩, ⟨by omega, by omega⟩⟩ | exact Nat.le_of_ble_eq_true rfl | decide) only [bnd_ok, bnd_bad, binJ_eq, binK_eq, notK_eq, cmpJ_eq, cmpK_eq, idxJ_eq, idxK_eq, calJ_eq, clkJ_eq, clkK_eq, priJ_eq, isiJ_eq, metJ_eq, metI_t, metK_eq, lcJ_eq, lcK_eq, conJ_eq, conK_eq, andJ_eq, orJ_eq, rg2J_eq, nxtK_eq, setI1_eq, setI2_eq, setI3_eq, retK_eq,  vE_var, varK_ok, vE_int, vE_bl, vE_non, vE_str, vE_tup, vE_lst, vE_bin, vE_neg, vE_not, vE_and, vE_or, vE_cmp, vE_ite, brE_t, brE_f, vE_idx, vE_slc, vE_call, vE_callk, vE_prim, vE_isin, vE_meth, vE_lc, vE_gcon, toD_int, toD_strs, vE_chain, chnI_eq, chnK_eq, chnJ_t, chnJ_f, vE_tupG, tgJ_eq, tgK_eq, vE_qual, qlK_eq, vE_sumG, smK_eq, vE_lc2, l2K_eq, vEs_nil, vEs_cons, vA_one, vA_cons, vO_one, vO_cons, andK_t, andK_f, orK_t, orK_f, vT_nil, vT_cons, vI_seq, seqK_tup, seqK_rls, seqK_loc, seqL_ok, vI_range1, rg1_int, vI_range2, rg2_int,
  xS_asg, asgK_nm, asgT_nm, asgT_tp2, asgT_tp3, asgK_tp2, asgK_tp3, xS_par, parK_2, parK_3, xS_setS, xS_aug, augV_ok, augK_add, augK_sub, xS_augS, agR_some, agD_eq, agX_eq, agI_eq, agO_eq, idxM_loc, augD_add, augD_sub, xS_expr, xS_ret, xS_retN, xS_ite, brS_t, brS_f, xS_wh, whB_t, whB_f, whK_n, whK_c, whK_b, whK_r, xS_fo, foT_some, foK_n, foK_c, foK_b, foK_r, xS_brk, xS_cont, xS_pass, xSs_nil, xSs_cons, sqK_n, sqK_r, sqK_b, sqK_c,
  b_add, b_sub, b_mul, b_mulL, b_mulR, b_fdiv, b_mod, b_pow, b_addT, b_addL, addL_ok, b_repT, k_lt, k_le, k_gt, k_ge, k_eq, k_ne, k_isN, k_notN, k_in, k_nin, tr_str, q_int, q_bl, q_str, ofB_some, Option.map_some, tr_bl, tr_int, tr_non, tr_tup, tr_loc, trK_ok, td_bl, td_int, td_tup, i_tup, i_rls, i_loc, idxL_ok, okV_some, at0, at1, at2, at3, at_m1, tupK_ok, lstK_ok, negK_int, p_abs, p_int, p_intB, p_lenT, p_lenR, p_lenL, lenL_ok, p_max, p_min, p_tupT, p_tupL, tupL_ok, p_lstT, p_lstL, lstL_ok, isD_ok, m_app, appL_ok, m_pop, popL_ok, m_rev, revL_ok, recv_ok, recvL_ok, set_loc, setL_ok, setI_ok, new_eq, Bool.not_true, Bool.not_false, if_true, eq_self, decide_true, decide_false,
  List.set_cons_zero, List.set_cons_succ, List.getElem?_cons_zero, List.getElem?_cons_succ, List.length_cons, List.length_nil, Option.some.injEq, *])
local macro_rules | `(tactic| walk_at "evs") => `(tactic| simp (config := { maxSteps := 3000000 }) (disch := first | assumption | omega | exact ⟨by omega, by omega⟩ | exact ⟨⟨by omega, by omega⟩, ⟨by omega, by omega⟩⟩ | exact Nat.le_of_ble_eq_true rfl | decide) only [bnd_ok, bnd_bad, binJ_eq, binK_eq, notK_eq, cmpJ_eq, cmpK_eq, idxJ_eq, idxK_eq, calJ_eq, clkJ_eq, clkK_eq, priJ_eq, isiJ_eq, metJ_eq, metI_t, metK_eq, lcJ_eq, lcK_eq, conJ_eq, conK_eq, andJ_eq, orJ_eq, rg2J_eq, nxtK_eq, setI1_eq, setI2_eq, setI3_eq, retK_eq,  vE_var, varK_ok, vE_int, vE_bl, vE_non, vE_str, vE_tup, vE_lst, vE_bin, vE_neg, vE_not, vE_and, vE_or, vE_cmp, vE_ite, brE_t, brE_f, vE_idx, vE_slc, vE_call, vE_callk, vE_prim, vE_isin, vE_meth, vE_lc, vE_gcon, toD_int, toD_strs, vE_chain, chnI_eq, chnK_eq, chnJ_t, chnJ_f, vE_tupG, tgJ_eq, tgK_eq, vE_qual, qlK_eq, vE_sumG, smK_eq, vE_lc2, l2K_eq, vEs_nil, vEs_cons, vA_one, vA_cons, vO_one, vO_cons, andK_t, andK_f, orK_t, orK_f, vT_nil, vT_cons, vI_seq, seqK_tup, seqK_rls, seqK_loc, seqL_ok, vI_range1, rg1_int, vI_range2, rg2_int,
  xS_asg, asgK_nm, asgT_nm, asgT_tp2, asgT_tp3, asgK_tp2, asgK_tp3, xS_par, parK_2, parK_3, xS_setS, xS_aug, augV_ok, augK_add, augK_sub, xS_augS, agR_some, agD_eq, agX_eq, agI_eq, agO_eq, idxM_loc, augD_add, augD_sub, xS_expr, xS_ret, xS_retN, xS_ite, brS_t, brS_f, xS_wh, whB_t, whB_f, whK_n, whK_c, whK_b, whK_r, xS_fo, foT_some, foK_n, foK_c, foK_b, foK_r, xS_brk, xS_cont, xS_pass, xSs_nil, xSs_cons, sqK_n, sqK_r, sqK_b, sqK_c,
  b_add, b_sub, b_mul, b_mulL, b_mulR, b_fdiv, b_mod, b_pow, b_addT, b_addL, addL_ok, b_repT, k_lt, k_le, k_gt, k_ge, k_eq, k_ne, k_isN, k_notN, k_in, k_nin, tr_str, q_int, q_bl, q_str, ofB_some, Option.map_some, tr_bl, tr_int, tr_non, tr_tup, tr_loc, trK_ok, td_bl, td_int, td_tup, i_tup, i_rls, i_loc, idxL_ok, okV_some, at0, at1, at2, at3, at_m1, tupK_ok, lstK_ok, negK_int, p_abs, p_int, p_intB, p_lenT, p_lenR, p_lenL, lenL_ok, p_max, p_min, p_tupT, p_tupL, tupL_ok, p_lstT, p_lstL, lstL_ok, isD_ok, m_app, appL_ok, m_pop, popL_ok, m_rev, revL_ok, recv_ok, recvL_ok, set_loc, setL_ok, setI_ok, new_eq, Bool.not_true, Bool.not_false, if_true, eq_self, decide_true, decide_false,
  List.set_cons_zero, List.set_cons_succ, List.getElem?_cons_zero, List.getElem?_cons_succ, List.length_cons, List.length_nil, Option.some.injEq, List.cons_append, List.nil_append, List.append_assoc, Nat.reduceAdd, st_get, st_get0, st_set, st_set0, List.length_append, Nat.add_zero, Nat.zero_add, *])

/-! ### a list against the empty list -/
mutual
def noStr : D → Bool
  | .non => true
  | .bl _ => true
  | .int _ => true
  | .tup ds => noStrs ds
  | _ => false
def noStrs : List D → Bool
  | [] => true
  | d :: ds => noStr d && noStrs ds
end
mutual
theorem py_of : ∀ d : D, noStr d = true → ∃ x, pyD d = some x ∧ x.canLay0 = true ∧ x.depth ≤ depD d
  | .non, _ => ⟨.none, rfl, by simp [PyData.canLay0], by simp [PyData.depth]⟩
  | .bl b, _ => ⟨.bool b, rfl, by simp [PyData.canLay0], by simp [PyData.depth]⟩
  | .int i, _ => ⟨.int i, rfl, by simp [PyData.canLay0], by simp [PyData.depth]⟩
  | .str x, h => by cases h
  | .rls x, h => by cases h
  | .loc x, h => by cases h
  | .tup ds, h => by
    unfold noStr at h
    obtain ⟨xs, h1, h2, h3⟩ := pys_of ds h
    refine ⟨.tuple xs, ?_, ?_, ?_⟩
    · unfold pyD; rw [h1]; rfl
    · unfold PyData.canLay0; exact h2
    · unfold PyData.depth depD; omega
theorem pys_of : ∀ ds : List D, noStrs ds = true → ∃ xs, pyDs ds = some xs ∧ PyData.canLayAll0 xs = true ∧ PyData.depthAll xs ≤ depDs ds
  | [], _ => ⟨[], rfl, by simp [PyData.canLayAll0], by simp [PyData.depthAll]⟩
  | d :: ds, h => by
    unfold noStrs at h
    rw [Bool.and_eq_true] at h
    obtain ⟨x, a1, a2, a3⟩ := py_of d h.1
    obtain ⟨xs, h1, h2, h3⟩ := pys_of ds h.2
    refine ⟨x :: xs, ?_, ?_, ?_⟩
    · unfold pyDs; rw [a1, h1]
    · unfold PyData.canLayAll0; rw [a2, h2]; rfl
    · unfold PyData.depthAll depDs; omega
end
theorem pyDs_nil {ds : List D} {xs : List PyData} (h : pyDs ds = some xs) : xs.isEmpty = ds.isEmpty := by
  cases ds with
  | nil => cases h; rfl
  | cons d ds =>
    unfold pyDs at h
    split at h
    · cases h; rfl
    · cases h
theorem q_empty {S : Store} {l m : Nat} {ds : List D} (h1 : S[l]? = some (.lst ds)) (h2 : S[m]? = some (.lst [])) (hn : noStrs ds = true) (hd : depDs ds ≤ 60) : eqD (.loc l) (.loc m) S = some ds.isEmpty := by
  obtain ⟨xs, a1, a2, a3⟩ := pys_of ds hn
  unfold eqD
  have e1 : pyT (.loc l) S = some (.list xs) := by unfold pyT; simp only [h1, a1]; rfl
  have e2 : pyT (.loc m) S = some (.list []) := by unfold pyT; simp only [h2]; rfl
  rw [e1, e2]
  have e3 : SeqAt.shaped (.list xs) = true := by
    unfold SeqAt.shaped
    rw [Bool.and_eq_true, decide_eq_true_eq]
    refine ⟨?_, ?_⟩
    · unfold PyData.canLay0; exact a2
    · unfold PyData.depth; omega
  have e4 : SeqAt.shaped (.list []) = true := by decide
  show (if _ then _ else _) = _
  rw [if_pos ⟨e3, e4⟩]
  rw [← pyDs_nil a1]
  cases xs <;> rfl
theorem noStrs_app : ∀ (xs ys : List D), noStrs (xs ++ ys) = (noStrs xs && noStrs ys)
  | [], ys => rfl
  | x :: xs, ys => by rw [List.cons_append, noStrs, noStrs, noStrs_app xs ys, Bool.and_assoc]
theorem depDs_app : ∀ (xs ys : List D), depDs (xs ++ ys) = max (depDs xs) (depDs ys)
  | [], ys => by rw [List.nil_append, depDs]; omega
  | x :: xs, ys => by rw [List.cons_append, depDs, depDs, depDs_app xs ys]; omega
/-! ### loops that keep a law -/
theorem fo_inv (F : Fns) (t : Tg) (b : Ss) (w : Walk) (Inv : Env → Store → Prop) (hw : ∀ e s, Inv e s → w.here s) : ∀ (items : List D),
    (∀ d ∈ items, ∀ e s, Inv e s → ∃ e1 e2 s2, asgT t d s e = some e1 ∧ exSs F b e1 s = .ok (.next, e2) s2 ∧ Inv e2 s2) →
    ∀ e s, Inv e s → ∃ e2 s2, foS F t b w items e s = .ok (.next, e2) s2 ∧ Inv e2 s2
  | [], _, e, s, h => ⟨e, s, fo_nil _ _ _ _ _ _ (hw e s h), h⟩
  | d :: ds, step, e, s, h => by
    obtain ⟨e1, e2, s2, a1, a2, a3⟩ := step d (List.mem_cons_self ..) e s h
    obtain ⟨e3, s3, b1, b2⟩ := fo_inv F t b w Inv hw ds (fun x hx => step x (List.mem_cons_of_mem _ hx)) e2 s2 a3
    refine ⟨e3, s3, ?_, b2⟩
    rw [fo_cons _ _ _ _ _ _ _ _ (hw e s h), a1, foT_some, a2, bnd_ok, foK_n, b1]
/-! ### cuts -/
theorem cut_tail (d : D) (ds : List D) : cutD (d :: ds) (some 1) none = ds := by
  unfold cutD HT.sIx
  simp
theorem len_map_rng (hi : Int) : (rngK 0 hi).length = hi.toNat := by rw [rng_len]; simp
theorem rng_mem {lo hi : Int} {d : D} (h : d ∈ rngK lo hi) : ∃ i : Int, d = .int i ∧ lo ≤ i ∧ i < hi := by
  unfold rngK at h
  obtain ⟨k, hk, rfl⟩ := List.mem_map.mp h
  rw [List.mem_range] at hk
  exact ⟨_, rfl, by omega, by omega⟩
theorem map_const_rng (n : Nat) (d : D) : (rngK 0 (n : Int)).map (fun _ => d) = List.replicate n d := by
  rw [List.map_const', len_map_rng]
  simp
theorem rep_flat (n : Nat) (d : D) : (List.replicate n [d]).flatten = List.replicate n d := by
  induction n with
  | zero => rfl
  | succ n ih => rw [List.replicate_succ, List.flatten_cons, ih, List.replicate_succ]; rfl
theorem slc_tail (F : Fns) (env : Env) (a : E) (S S1 : Store) (d : D) (ds : List D) (h : evE F a env S = .ok (.tup (d :: ds)) S1) : evE F (.slc a (.cint 1) .absent) env S = .ok (.tup ds) S1 := by
  rw [vE_slc, h, bnd_ok]
  show ((optI (evE F (.cint 1) env S1)).bnd _) = _
  rw [vE_int]
  show slcD (.tup (d :: ds)) (some 1) none S1 = _
  show Res.ok (D.tup (cutD (d :: ds) (some 1) none)) S1 = _
  rw [cut_tail]
/-! ### draws in expressions -/
theorem draw_is {P : Prg} {f : Nat} (hd : DrawOk P f) (N : Nat) (hN : 1 ≤ N) (l : Nat) (m : Int) (Sb G : Store) (hB : Bag Sb l) (h0 : 0 < m) (h1 : m < 2 ^ 60) :
    ∃ r Sb', callN P N f [.loc l, .int m] (Sb ++ G) = .ok (.int r) (Sb' ++ G) ∧ 0 ≤ r ∧ r < m ∧ Bag Sb' l ∧ Sb'.length = Sb.length := by
  obtain ⟨n, rfl⟩ : ∃ n, N = n + 1 := ⟨N - 1, by omega⟩
  exact hd n Sb G l m hB h0 (Nat.lt_of_lt_of_le (by omega : m.natAbs < 2 ^ 60) (pow_le_pow (by decide)))
theorem pick_is {P : Prg} {f : Nat} (hd : PickOk P f) (N : Nat) (hN : 2 ≤ N) (l : Nat) (ds : List D) (Sb G : Store) (hB : Bag Sb l) (h0 : ds ≠ []) (h1 : ds.length ≤ 1000) :
    ∃ d Sb' G', callN P N f [.loc l, .loc (Sb ++ G).length] (Sb ++ G ++ [.lst ds]) = .ok d (Sb' ++ G') ∧ d ∈ ds ∧ Bag Sb' l ∧ Sb'.length = Sb.length := by
  obtain ⟨n, rfl⟩ : ∃ n, N = n + 2 := ⟨N - 2, by omega⟩
  obtain ⟨d, Sb', a, b, c⟩ := hd n Sb (G ++ [.lst ds]) l G.length ds hB (by rw [List.getElem?_append_right (Nat.le_refl _), Nat.sub_self]; rfl) h0 (by omega)
  refine ⟨d, Sb', G ++ [.lst ds], ?_, b, c⟩
  rw [List.length_append, List.append_assoc]
  exact a
theorem picki_is {P : Prg} {f : Nat} (hd : PickOk P f) (N : Nat) (hN : 2 ≤ N) (l : Nat) (ms : List Int) (ds : List D) (hms : ms.map .int = ds) (Sb G : Store) (hB : Bag Sb l) (h0 : ms ≠ []) (h1 : ms.length ≤ 1000) :
    ∃ m Sb' G', callN P N f [.loc l, .loc (Sb ++ G).length] (Sb ++ G ++ [.lst ds]) = .ok (.int m) (Sb' ++ G') ∧ m ∈ ms ∧ Bag Sb' l ∧ Sb'.length = Sb.length := by
  subst hms
  obtain ⟨d, Sb', G', a, b, c⟩ := pick_is hd N hN l (ms.map .int) Sb G hB (fun z => h0 (List.map_eq_nil_iff.mp z)) (by rw [List.length_map]; exact h1)
  obtain ⟨m, hm, rfl⟩ := List.mem_map.mp b
  exact ⟨m, Sb', G', a, hm, c⟩
/-- draw(bag, pick(bag, [..])) -/
theorem dp_is {P : Prg} {f g : Nat} (hd : DrawOk P f) (hp : PickOk P g) (N : Nat) (hN : 2 ≤ N) (l : Nat) (ms : List Int) (ds : List D) (hms : ms.map .int = ds) (Sb G : Store) (hB : Bag Sb l) (h0 : ms ≠ []) (h1 : ms.length ≤ 1000)
    (hm : ∀ m ∈ ms, 0 < m ∧ m < 2 ^ 60) :
    ∃ r m Sb1 Sb2 G', callN P N g [.loc l, .loc (Sb ++ G).length] (Sb ++ G ++ [.lst ds]) = .ok (.int m) (Sb1 ++ G') ∧ callN P N f [.loc l, .int m] (Sb1 ++ G') = .ok (.int r) (Sb2 ++ G') ∧ 0 ≤ r ∧ m ∈ ms ∧ r < m ∧ Bag Sb2 l ∧ Sb2.length = Sb.length := by
  obtain ⟨m, Sb1, G1, a, b, c, d⟩ := picki_is hp N hN l ms ds hms Sb G hB h0 h1
  obtain ⟨m0, m1⟩ := hm m b
  obtain ⟨r, Sb2, a2, b2, c2, d2, e2⟩ := draw_is hd N (by omega) l m Sb1 G1 c m0 m1
  exact ⟨r, m, Sb1, Sb2, G1, a, a2, b2, b, c2, d2, by omega⟩
theorem seq_ex {F : Fns} {s : St} {ss : Ss} {env : Env} {S : Store} {Q : Res (Flow × Env) → Prop} (env' : Env) (S' : Store) (h : exS F s env S = .ok (.next, env') S') (q : Q (exSs F ss env' S')) : Q (exSs F (.cons s ss) env S) := by
  rw [xSs_cons, h, bnd_ok, sqK_n]
  exact q
/-- a list comprehension of numbers whose turns may change the store -/
theorem lc_eff (F : Fns) (env : Env) (t : Tg) (own : List Nat) (elt : E) (w : Walk) (Inv : Store → Prop) (R : Int → Prop) (hw : ∀ s, Inv s → w.here s) : ∀ (items acc : List D) (S : Store), Inv S → acc.length + items.length < LINE →
    (∀ d ∈ items, ∀ S, Inv S → ∃ env1 x S', asgT t d S (wipeE env own) = some env1 ∧ evE F elt env1 S = .ok (.int x) S' ∧ R x ∧ Inv S') →
    ∃ (xs : List Int) (S' : Store), lcS F env t own .nil elt w items acc S = .ok (acc ++ xs.map .int) S' ∧ xs.length = items.length ∧ (∀ x ∈ xs, R x) ∧ Inv S'
  | [], acc, S, hI, _, _ => ⟨[], S, by rw [lc_nil _ _ _ _ _ _ _ _ _ (hw S hI), List.map_nil, List.append_nil], rfl, (by simp), hI⟩
  | d :: ds, acc, S, hI, hl, h => by
    obtain ⟨env1, x, S1, e1, e2, r1, i1⟩ := h d (List.mem_cons_self ..) S hI
    rw [List.length_cons] at hl
    obtain ⟨xs, S2, a, b, c, e⟩ := lc_eff F env t own elt w Inv R hw ds (acc ++ [.int x]) S1 i1 (by rw [List.length_append]; simp only [List.length_cons, List.length_nil]; omega) (fun z hz => h z (List.mem_cons_of_mem _ hz))
    refine ⟨x :: xs, S2, ?_, by rw [List.length_cons, List.length_cons, b], ?_, e⟩
    · rw [lc_cons _ _ _ _ _ _ _ _ _ _ _ (hw S hI), e1]
      unfold lcT
      dsimp only
      rw [vT_nil, bnd_ok]
      unfold lcB
      rw [if_pos rfl, e2, bnd_ok, if_pos (by omega), a, List.map_cons, List.append_assoc]
      rfl
    · intro z hz
      rcases List.mem_cons.mp hz with rfl | hz
      · exact r1
      · exact c z hz
end
end SX
namespace SX
open PySem PySem.Spec PyProof.Rows L2
noncomputable section
open Classical
/-! ### the end -/
theorem tab_of {q : Program} {mg : Str → Option Value} {h : Heap} {K : PySem.W.Frag} {f c P : Addr} {nm : Str} {oc e : Value} {od dd : Option Addr} {sl s2 : Array (Option Value)} {fd : FuncData} {vs : Array Value} (X : K.In h) (hT : GX.TabsAt q mg h) (hr : ((recsOf q).any fun d => d.name == nm) = true)
    (hm : mg nm = some (.ref f)) (l : K.lookup f = some ⟨oc, od, .func fd, sl⟩) (hc : fd.code = .ref c) (m : K.lookup c = some ⟨e, dd, .fields vs, s2⟩) (p : vs[11]? = some (.ref P)) :
    h.get? P = some { cls := .none, data := .fields #[] } ∧ PySem.W.CodeHd h c P := by
  obtain ⟨d, hd, hn⟩ := List.any_eq_true.mp hr
  obtain ⟨a, o, fd', c', P', x1, x2, x3, x4, x5, x6⟩ := hT d hd
  rw [beq_iff_eq.mp hn, hm] at x1
  cases x1
  have y1 := X _ _ l
  rw [y1] at x2
  cases x2
  cases x3
  rw [hc] at x4
  cases x4
  have key : P' = P := by
    obtain ⟨⟨oc2, vs2, z1, z2, z3, z4⟩, _⟩ := x6
    have y2 := X _ _ m
    rw [y2] at z1
    cases z1
    cases z3
    rw [p] at z4
    cases z4
    rfl
  rw [key] at x5 x6
  exact ⟨x6.2, PySem.W.CodeHd.of x5 x6⟩
variable [Tabs]
theorem con_int {K : PySem.W.Frag} {mg : Str → Option Value} {x : Str} {i : Int} {t : Tok} (h : mg x = some (.int i t)) : ConOk K mg x (.int i) := ⟨.int i, .int i t, h, ⟨t, rfl⟩, fun _ _ => to_int _⟩
theorem law_at {l : PySem.W.OpenLaw} {w : World} {K : PySem.W.Frag} {mg : Str → Option Value} {fa : Addr} {h : Heap} {T : List Def} {bl : List Str} {kw : Kws} {co : Cos} {LV i : Nat} {d : Def} {fdat : FuncData}
    (hs : ∀ (f : Nat) (d : Def), T[f]? = some d → DefS T bl kw co d) (hk : ∀ (f : Nat) (d : Def), T[f]? = some d → DefK K mg kw f d) (hb : ∀ x, bl.contains x = true → mg x = none) (hco : ∀ x k, (x, k) ∈ co → ConOk K mg x k)
    (hi : T[i]? = some d) (hps : d.ps = [("script" : Str)]) (hm : mg d.name = some (.ref fa)) (F : Fun K d.name d.qual d.st fa fdat) (hbd : ∀ (s : Shared) (u : Value), BindsTo s fdat ⟨[u], []⟩ [(("script" : Str), u)])
    (hT : ∀ p ∈ Tabs.cs, (h.get? p.2 = some { cls := .none, data := .fields #[] } ∧ PySem.W.CodeHd h p.1 p.2) ∧ K.lookup p.2 = none)
    (main : ∀ ns : List Int, ns.length ≤ 63 → (∃ S', callN (prg T) LV i [.rls (ns.map .int)] [] = .ok (.bl true) S') ∧ ∃ S', callN (prg T) LV i [.loc 0] [.lst (ns.map .int)] = .ok (.bl true) S') :
    LamX.LawAtS l w K CX0 (8 * LV) 63 "script" mg fa h := by
  refine ⟨fdat, Tabs.cs, GSp K 1 (callN (prg T) LV i), fun p hp => (hT p hp).1.1, fun p hp => (hT p hp).2, fun p hp => (hT p hp).1.2, hbd, fun H a ns h1 _ h2 h3 => law_sp h2 h3 (main ns h1).1 (main ns h1).2, fun base _ _ tb => ?_⟩
  have := callN_ok (P := l.prog) (w := w) hs hk hb hco (fun p hp => ⟨(tb p hp).code, (tb p hp).bm, (tb p hp).gP⟩) LV i d fa fdat hi hm F
  rw [hps] at this
  exact this
end
end SX
namespace SX
open PySem PySem.Spec PyProof.Rows L2
noncomputable section
open Classical
local macro_rules | `(tactic| walk_at "ev") => `(tactic| simp (config := { maxSteps := 3000000 }) (disch := first | assumption | omega | exact ⟨by omega, by omega⟩ | exact ⟨⟨by omega, by omega⟩, ⟨by omega, by omega⟩⟩ | exact Nat.le_of_ble_eq_true rfl | decide) only [bnd_ok, bnd_bad, binJ_eq, binK_eq, notK_eq, cmpJ_eq, cmpK_eq, idxJ_eq, idxK_eq, calJ_eq, clkJ_eq, clkK_eq, priJ_eq, isiJ_eq, metJ_eq, metI_t, metK_eq, lcJ_eq, lcK_eq, conJ_eq, conK_eq, andJ_eq, orJ_eq, rg2J_eq, nxtK_eq, setI1_eq, setI2_eq, setI3_eq, retK_eq,  vE_var, varK_ok, vE_int, vE_bl, vE_non, vE_str, vE_tup, vE_lst, vE_bin, vE_neg, vE_not, vE_and, vE_or, vE_cmp, vE_ite, brE_t, brE_f, vE_idx, vE_slc, vE_call, vE_callk, vE_prim, vE_isin, vE_meth, vE_lc, vE_gcon, toD_int, toD_strs, vE_chain, chnI_eq, chnK_eq, chnJ_t, chnJ_f, vE_tupG, tgJ_eq, tgK_eq, vE_qual, qlK_eq, vE_sumG, smK_eq, vE_lc2, l2K_eq, vEs_nil, vEs_cons, vA_one, vA_cons, vO_one, vO_cons, andK_t, andK_f, orK_t, orK_f, vT_nil, vT_cons, vI_seq, seqK_tup, seqK_rls, seqK_loc, seqL_ok, vI_range1, rg1_int, vI_range2, rg2_int,
  xS_asg, asgK_nm, asgT_nm, asgT_tp2, asgT_tp3, asgK_tp2, asgK_tp3, xS_par, parK_2, parK_3, xS_setS, xS_aug, augV_ok, augK_add, augK_sub, xS_augS, agR_some, agD_eq, agX_eq, agI_eq, agO_eq, idxM_loc, augD_add, augD_sub, xS_expr, xS_ret, xS_retN, xS_ite, brS_t, brS_f, xS_wh, whB_t, whB_f, whK_n, whK_c, whK_b, whK_r, xS_fo, foT_some, foK_n, foK_c, foK_b, foK_r, xS_brk, xS_cont, xS_pass, xSs_nil, xSs_cons, sqK_n, sqK_r, sqK_b, sqK_c,
  b_add, b_sub, b_mul, b_mulL, b_mulR, b_fdiv, b_mod, b_pow, b_addT, b_addL, addL_ok, b_repT, k_lt, k_le, k_gt, k_ge, k_eq, k_ne, k_isN, k_notN, k_in, k_nin, tr_str, q_int, q_bl, q_str, ofB_some, Option.map_some, tr_bl, tr_int, tr_non, tr_tup, tr_loc, trK_ok, td_bl, td_int, td_tup, i_tup, i_rls, i_loc, idxL_ok, okV_some, at0, at1, at2, at3, at_m1, tupK_ok, lstK_ok, negK_int, p_abs, p_int, p_intB, p_lenT, p_lenR, p_lenL, lenL_ok, p_max, p_min, p_tupT, p_tupL, tupL_ok, p_lstT, p_lstL, lstL_ok, isD_ok, m_app, appL_ok, m_pop, popL_ok, m_rev, revL_ok, recv_ok, recvL_ok, set_loc, setL_ok, setI_ok, new_eq, Bool.not_true, Bool.not_false, if_true, eq_self, decide_true, decide_false,
  List.set_cons_zero, List.set_cons_succ, List.getElem?_cons_zero, List.getElem?_cons_succ, List.length_cons, List.length_nil, Option.some.injEq])
local macro_rules | `(tactic| walk_at "ev*") => `(tactic| simp (config := { maxSteps := 3000000 }) (disch := first | assumption | omega | exact ⟨by omega, by omega⟩ | exact ⟨⟨by omega, by omega⟩, ⟨by omega, by omega⟩⟩ | exact Nat.le_of_ble_eq_true rfl | decide) only [bnd_ok, bnd_bad, binJ_eq, binK_eq, notK_eq, cmpJ_eq, cmpK_eq, idxJ_eq, idxK_eq, calJ_eq, clkJ_eq, clkK_eq, priJ_eq, isiJ_eq, metJ_eq, metI_t, metK_eq, lcJ_eq, lcK_eq, conJ_eq, conK_eq, andJ_eq, orJ_eq, rg2J_eq, nxtK_eq, setI1_eq, setI2_eq, setI3_eq, retK_eq,  vE_var, varK_ok, vE_int, vE_bl, vE_non, vE_str, vE_tup, vE_lst, vE_bin, vE_neg, vE_not, vE_and, vE_or, vE_cmp, vE_ite, brE_t, brE_f, vE_idx, vE_slc, vE_call, vE_callk, vE_prim, vE_isin, vE_meth, vE_lc, vE_gcon, toD_int, toD_strs, vE_chain, chnI_eq, chnK_eq, chnJ_t, chnJ_f, vE_tupG, tgJ_eq, tgK_eq, vE_qual, qlK_eq, vE_sumG, smK_eq, vE_lc2, l2K_eq, vEs_nil, vEs_cons, vA_one, vA_cons, vO_one, vO_cons, andK_t, andK_f, orK_t, orK_f, vT_nil, vT_cons, vI_seq, seqK_tup, seqK_rls, seqK_loc, seqL_ok, vI_range1, rg1_int, vI_range2, rg2_int,
  xS_asg, asgK_nm, asgT_nm, asgT_tp2, asgT_tp3, asgK_tp2, asgK_tp3, xS_par, parK_2, parK_3, xS_setS, xS_aug, augV_ok, augK_add, augK_sub, xS_augS, agR_some, agD_eq, agX_eq, agI_eq, agO_eq, idxM_loc, augD_add, augD_sub, xS_expr, xS_ret, xS_retN, xS_ite, brS_t, brS_f, xS_wh, whB_t, whB_f, whK_n, whK_c, whK_b, whK_r, xS_fo, foT_some, foK_n, foK_c, foK_b, foK_r, xS_brk, xS_cont, xS_pass, xSs_nil, xSs_cons, sqK_n, sqK_r, sqK_b, sqK_c,
  b_add, b_sub, b_mul, b_mulL, b_mulR, b_fdiv, b_mod, b_pow, b_addT, b_addL, addL_ok, b_repT, k_lt, k_le, k_gt, k_ge, k_eq, k_ne, k_isN, k_notN, k_in, k_nin, tr_str, q_int, q_bl, q_str, ofB_some, Option.map_some, tr_bl, tr_int, tr_non, tr_tup, tr_loc, trK_ok, td_bl, td_int, td_tup, i_tup, i_rls, i_loc, idxL_ok, okV_some, at0, at1, at2, at3, at_m1, tupK_ok, lstK_ok, negK_int, p_abs, p_int, p_intB, p_lenT, p_lenR, p_lenL, lenL_ok, p_max, p_min, p_tupT, p_tupL, tupL_ok, p_lstT, p_lstL, lstL_ok, isD_ok, m_app, appL_ok, m_pop, popL_ok, m_rev, revL_ok, recv_ok, recvL_ok, set_loc, setL_ok, setI_ok, new_eq, Bool.not_true, Bool.not_false, if_true, eq_self, decide_true, decide_false,
  List.set_cons_zero, List.set_cons_succ, List.getElem?_cons_zero, List.getElem?_cons_succ, List.length_cons, List.length_nil, Option.some.injEq, *])
local macro_rules | `(tactic| walk_at "evs") => `(tactic| simp (config := { maxSteps := 3000000 }) (disch := first | assumption | omega | exact ⟨by omega, by omega⟩ | exact ⟨⟨by omega, by omega⟩, ⟨by omega, by omega⟩⟩ | exact Nat.le_of_ble_eq_true rfl | decide) only [bnd_ok, bnd_bad, binJ_eq, binK_eq, notK_eq, cmpJ_eq, cmpK_eq, idxJ_eq, idxK_eq, calJ_eq, clkJ_eq, clkK_eq, priJ_eq, isiJ_eq, metJ_eq, metI_t, metK_eq, lcJ_eq, lcK_eq, conJ_eq, conK_eq, andJ_eq, orJ_eq, rg2J_eq, nxtK_eq, setI1_eq, setI2_eq, setI3_eq, retK_eq,  vE_var, varK_ok, vE_int, vE_bl, vE_non, vE_str, vE_tup, vE_lst, vE_bin, vE_neg, vE_not, vE_and, vE_or, vE_cmp, vE_ite, brE_t, brE_f, vE_idx, vE_slc, vE_call, vE_callk, vE_prim, vE_isin, vE_meth, vE_lc, vE_gcon, toD_int, toD_strs, vE_chain, chnI_eq, chnK_eq, chnJ_t, chnJ_f, vE_tupG, tgJ_eq, tgK_eq, vE_qual, qlK_eq, vE_sumG, smK_eq, vE_lc2, l2K_eq, vEs_nil, vEs_cons, vA_one, vA_cons, vO_one, vO_cons, andK_t, andK_f, orK_t, orK_f, vT_nil, vT_cons, vI_seq, seqK_tup, seqK_rls, seqK_loc, seqL_ok, vI_range1, rg1_int, vI_range2, rg2_int,
  xS_asg, asgK_nm, asgT_nm, asgT_tp2, asgT_tp3, asgK_tp2, asgK_tp3, xS_par, parK_2, parK_3, xS_setS, xS_aug, augV_ok, augK_add, augK_sub, xS_augS, agR_some, agD_eq, agX_eq, agI_eq, agO_eq, idxM_loc, augD_add, augD_sub, xS_expr, xS_ret, xS_retN, xS_ite, brS_t, brS_f, xS_wh, whB_t, whB_f, whK_n, whK_c, whK_b, whK_r, xS_fo, foT_some, foK_n, foK_c, foK_b, foK_r, xS_brk, xS_cont, xS_pass, xSs_nil, xSs_cons, sqK_n, sqK_r, sqK_b, sqK_c,
  b_add, b_sub, b_mul, b_mulL, b_mulR, b_fdiv, b_mod, b_pow, b_addT, b_addL, addL_ok, b_repT, k_lt, k_le, k_gt, k_ge, k_eq, k_ne, k_isN, k_notN, k_in, k_nin, tr_str, q_int, q_bl, q_str, ofB_some, Option.map_some, tr_bl, tr_int, tr_non, tr_tup, tr_loc, trK_ok, td_bl, td_int, td_tup, i_tup, i_rls, i_loc, idxL_ok, okV_some, at0, at1, at2, at3, at_m1, tupK_ok, lstK_ok, negK_int, p_abs, p_int, p_intB, p_lenT, p_lenR, p_lenL, lenL_ok, p_max, p_min, p_tupT, p_tupL, tupL_ok, p_lstT, p_lstL, lstL_ok, isD_ok, m_app, appL_ok, m_pop, popL_ok, m_rev, revL_ok, recv_ok, recvL_ok, set_loc, setL_ok, setI_ok, new_eq, Bool.not_true, Bool.not_false, if_true, eq_self, decide_true, decide_false,
  List.set_cons_zero, List.set_cons_succ, List.getElem?_cons_zero, List.getElem?_cons_succ, List.length_cons, List.length_nil, Option.some.injEq, List.cons_append, List.nil_append, List.append_assoc, Nat.reduceAdd, st_get, st_get0, st_set, st_set0, List.length_append, Nat.add_zero, Nat.zero_add, *])
/-! ### the bag's script as a list, picks -/
theorem e_bagL {P : Prg} {f : Nat} (hf : P f = some ⟨1, 4, B_bag, false⟩) (n : Nat) (ns : List Int) (hn : ns.length ≤ 1000) :
    ∃ Sb l, callN P (n + 1) f [.loc 0] [.lst (ns.map .int)] = .ok (.loc l) Sb ∧ Bag Sb l := by
  rw [callN_eq n _ _ hf rfl (Nat.le_of_ble_eq_true rfl)]
  suffices HH : ∃ Sb l env, exSs (callN P n) B_bag [some (.loc 0), none, none, none] [.lst (ns.map .int)] = .ok (.ret (.loc l), env) Sb ∧ Bag Sb l by
    obtain ⟨Sb, l, env, h, h2⟩ := HH
    exact ⟨Sb, l, end_any h rfl, h2⟩
  unfold B_bag
  let T : List Int := ns.map (fun i => (i.natAbs : Int)) ++ [7]
  have hT : ns.map (fun i => (i.natAbs : Int)) ++ [7] = T := rfl
  have hTl : T.length = ns.length + 1 := by rw [← hT, List.length_append, List.length_map]; rfl
  have L0 : LINE = 16777216 := rfl
  have l1 := lc_map (callN P n) [some (.loc 0), none, none, none] [.lst (ns.map .int)] (.nm 3) [3] (.prim .abs (.cons (.prim .int (.cons (.var 3) .nil)) .nil)) ⟨ns.map .int, some 0⟩ rfl (fun d => .int ((dInt d).natAbs : Int)) (ns.map .int) [] (by rw [List.length_map]; simp only [List.length_nil]; omega) (fun d hd => by
    obtain ⟨i, hi, rfl⟩ := List.mem_map.mp hd
    refine ⟨[some (.loc 0), none, none, some (.int i)], rfl, ?_⟩
    walk_at "ev"
    rfl)
  rw [map_dInt (fun i => (i.natAbs : Int)), List.nil_append] at l1
  have e0 : 0 < T.length := by omega
  have e0' : atI (T.map D.int) 0 = some (.int T[0]) := by
    rw [at_nat (by decide) (by rw [List.length_map]; exact e0)]
    simp
  have hlen : (List.map D.int (List.map (fun i => ((i.natAbs : Int))) ns)).length + ([D.int 7] : List D).length ≤ LINE := by rw [List.length_map, List.length_map]; simp only [List.length_cons, List.length_nil]; omega
  have hS : (List.map D.int (List.map (fun i => ((i.natAbs : Int))) ns)) ++ [D.int 7] = T.map D.int := by rw [← hT, List.map_append]; rfl
  rw [xSs_cons]
  have s1 : exS (callN P n) (.asg (.nm 1) (.bin .add (.lc (.prim .abs (.cons (.prim .int (.cons (.var 3) .nil)) .nil)) (.nm 3) (.seq (.var 0)) .nil [3]) (.lst (.cons (.cint 7) .nil)))) [some (.loc 0), none, none, none] [.lst (ns.map .int)]
      = .ok (.next, [some (.loc 0), some (.loc 3), none, none]) [.lst (ns.map .int), .lst ((ns.map (fun i => (i.natAbs : Int))).map D.int), .lst [.int 7], .lst (T.map D.int)] := by
    walk_at "ev"
    rw [l1]
    walk_at "ev"
    show (addL _ (some (.lst _)) (some (.lst _))).bnd _ = _
    rw [addL_ok _ hlen, hS]
    rfl
  rw [s1, bnd_ok, sqK_n]
  generalize (ns.map (fun i => (i.natAbs : Int))) = A0
  clear s1 l1 hlen hS hT
  -- the rests
  have l3 : ∀ (S : Store) (env : Env) (w : Walk), w.here S → (∀ i : Int, asgT (.nm 3) (.int i) S (wipeE env [3]) = some (env.set 3 (some (.int i)))) → env.length = 4 → lcS (callN P n) env (.nm 3) [3] .nil (.bin .mod (.prim .int (.cons (.var 3) .nil)) (.cint 2147483647)) w (T.map D.int) [] S = .ok ((T.map (· % 2147483647)).map D.int) S := by
    intro S env w hw hq hle
    have := lc_map (callN P n) env S (.nm 3) [3] (.bin .mod (.prim .int (.cons (.var 3) .nil)) (.cint 2147483647)) w hw (fun d => .int (dInt d % 2147483647)) (T.map .int) [] (by rw [List.length_map]; simp only [List.length_nil]; omega) (fun d hd => by
      obtain ⟨i, hi, rfl⟩ := List.mem_map.mp hd
      refine ⟨_, hq i, ?_⟩
      have e3 : (env.set 3 (some (D.int i)))[3]? = some (some (.int i)) := List.getElem?_set_self (by omega)
      walk_at "ev*"
      rfl)
    rw [map_dInt (fun i => i % 2147483647), List.nil_append] at this
    exact this
  have l2 : ∀ (S : Store) (env : Env) (w : Walk), w.here S → (∀ i : Int, asgT (.nm 3) (.int i) S (wipeE env [3]) = some (env.set 3 (some (.int i)))) → env.length = 4 → lcS (callN P n) env (.nm 3) [3] (.cons (.cmp .ge (.var 3) (.bin .pow (.cint 10) (.cint 18))) .nil) (.bin .fdiv (.var 3) (.cint 2)) w (T.map D.int) [] S = .ok (((T.filter fun i => decide (10 ^ 18 ≤ i)).map (· / 2)).map D.int) S := by
    intro S env w hw hq hle
    have := lc_filt (callN P n) env S (.nm 3) [3] (.cmp .ge (.var 3) (.bin .pow (.cint 10) (.cint 18))) (.bin .fdiv (.var 3) (.cint 2)) w hw (fun d => decide (10 ^ 18 ≤ dInt d)) (fun d => .int (dInt d / 2)) (T.map .int) [] (by rw [List.length_map]; simp only [List.length_nil]; omega) (fun d hd => by
      obtain ⟨i, hi, rfl⟩ := List.mem_map.mp hd
      have e3 : (env.set 3 (some (D.int i)))[3]? = some (some (.int i)) := List.getElem?_set_self (by omega)
      have c1 : CPow 10 18 := ⟨by decide, by decide, by decide⟩
      have c2 : CDivW i 2 := wide_div (b := 8) (by decide) (by decide) (by decide) (by decide)
      refine ⟨_, hq i, ?_, fun _ => ?_⟩
      · walk_at "ev*"
        rfl
      · walk_at "ev*"
        rfl)
    rw [filter_ints (fun i => decide (10 ^ 18 ≤ i)) _ (fun i => rfl), map_dInt (fun i => i / 2), List.nil_append] at this
    exact this
  have hCne : T.map (· % 2147483647) ≠ [] := fun z => by
    have := congrArg List.length z
    rw [List.length_map] at this
    simp only [List.length_nil] at this
    omega
  generalize (T.map (· % 2147483647)) = C at l3 hCne
  generalize ((T.filter fun i => decide (10 ^ 18 ≤ i)).map (· / 2)) = G at l2
  by_cases hev : T[0] % 2 = 0
  · refine ⟨[.lst (ns.map .int), .lst (A0.map .int), .lst [.int 7], .lst (T.map D.int), .lst [], .lst (G.reverse.map .int), .lst (C.map .int), .lst [.int 0, .int 0, .loc 5, .loc 6]], 7, [some (.loc 0), some (.loc 3), some (.loc 5), none], ?_, ⟨5, 6, 0, 0, G.reverse, C, rfl, rfl, rfl, hCne, by decide, by decide, by decide⟩, ?_⟩
    · have q2 := l2 [.lst (ns.map .int), .lst (A0.map .int), .lst [.int 7], .lst (T.map D.int), .lst []] [some (.loc 0), some (.loc 3), some (.loc 4), none] ⟨T.map .int, some 3⟩ rfl (fun i => rfl) rfl
      have q3 := l3 [.lst (ns.map .int), .lst (A0.map .int), .lst [.int 7], .lst (T.map D.int), .lst [], .lst (G.reverse.map .int)] [some (.loc 0), some (.loc 3), some (.loc 5), none] ⟨T.map .int, some 3⟩ rfl (fun i => rfl) rfl
      have q4 := rev_ints G
      walk_at "evs"
    · intro j o hj
      rcases j with _ | _ | _ | _ | _ | _ | _ | _ | j
      all_goals first
        | (simp only [List.getElem?_cons_zero, List.getElem?_cons_succ, Option.some.injEq] at hj; subst hj; first | exact clDs_ints _ _ | rfl)
        | (simp only [List.getElem?_cons_zero, List.getElem?_cons_succ, List.getElem?_nil] at hj; cases hj)
  · refine ⟨[.lst (ns.map .int), .lst (A0.map .int), .lst [.int 7], .lst (T.map D.int), .lst [], .lst (C.map .int), .lst [.int 0, .int 0, .loc 4, .loc 5]], 6, [some (.loc 0), some (.loc 3), some (.loc 4), none], ?_, ⟨4, 5, 0, 0, [], C, rfl, rfl, rfl, hCne, by decide, by decide, by decide⟩, ?_⟩
    · have q3 := l3 [.lst (ns.map .int), .lst (A0.map .int), .lst [.int 7], .lst (T.map D.int), .lst []] [some (.loc 0), some (.loc 3), some (.loc 4), none] ⟨T.map .int, some 3⟩ rfl (fun i => rfl) rfl
      walk_at "evs"
    · intro j o hj
      rcases j with _ | _ | _ | _ | _ | _ | _ | j
      all_goals first
        | (simp only [List.getElem?_cons_zero, List.getElem?_cons_succ, Option.some.injEq] at hj; subst hj; first | exact clDs_ints _ _ | rfl)
        | (simp only [List.getElem?_cons_zero, List.getElem?_cons_succ, List.getElem?_nil] at hj; cases hj)


theorem pick_x {P : Prg} {f : Nat} (hd : PickOk P f) (N : Nat) (hN : 2 ≤ N) (l : Nat) (ds : List D) (Sb G : Store) (hB : Bag Sb l) (h0 : ds ≠ []) (h1 : ds.length ≤ 1000) :
    ∃ d Sb', callN P N f [.loc l, .loc (Sb ++ G).length] (Sb ++ G ++ [.lst ds]) = .ok d (Sb' ++ (G ++ [.lst ds])) ∧ d ∈ ds ∧ Bag Sb' l ∧ Sb'.length = Sb.length := by
  obtain ⟨n, rfl⟩ : ∃ n, N = n + 2 := ⟨N - 2, by omega⟩
  obtain ⟨d, Sb', a, b, c⟩ := hd n Sb (G ++ [.lst ds]) l G.length ds hB (by rw [List.getElem?_append_right (Nat.le_refl _), Nat.sub_self]; rfl) h0 (by omega)
  refine ⟨d, Sb', ?_, b, c⟩
  rw [List.length_append, List.append_assoc]
  exact a
theorem pick_at {P : Prg} {f : Nat} (hd : PickOk P f) (N : Nat) (hN : 2 ≤ N) (l j : Nat) (ds : List D) (Sb G : Store) (hB : Bag Sb l) (hj : Sb.length ≤ j) (hx : (Sb ++ G)[j]? = some (.lst ds)) (h0 : ds ≠ []) (h1 : ds.length < 2 ^ 60) :
    ∃ d Sb', callN P N f [.loc l, .loc j] (Sb ++ G) = .ok d (Sb' ++ G) ∧ d ∈ ds ∧ Bag Sb' l ∧ Sb'.length = Sb.length := by
  obtain ⟨n, rfl⟩ : ∃ n, N = n + 2 := ⟨N - 2, by omega⟩
  obtain ⟨k, rfl⟩ : ∃ k, j = Sb.length + k := ⟨j - Sb.length, by omega⟩
  rw [st_get] at hx
  exact hd n Sb G l k ds hB hx h0 h1
end
end SX
namespace EX
open PySem PySem.W PySem.Calls PyProof.Rows PySem.HandSPX
/-! ### the error's own __init__ -/
def bpA (p1 p2 p3 : Pos) : Arguments := { posonlyargs := [], args := [⟨"self", none, p1⟩, ⟨"part", none, p2⟩, ⟨"number", none, p3⟩], vararg := none, kwonlyargs := [], kw_defaults := [], kwarg := none, defaults := [] }
def bpJ (p3 p4 p5 p6 p7 p8 p9 : Pos) : Expr := .JoinedStr [.Constant (.str "bad part: ") 0 p3, .FormattedValue (.Name "part" p4) (-1) none p5, .Constant (.str " ") 0 p6, .FormattedValue (.Name "number" p7) (-1) none p8] p9
def bpB (p0 p1 p3 p4 p5 p6 p7 p8 p9 pb q0 q1 q2 q3 r0 r1 r2 r3 : Pos) : List Stmt :=
  [.Expr (.Call (.Attribute (.Call (.Name "super" p0) [] [] p1) "__init__" ⟨7, 8, 7, 24⟩) [bpJ p3 p4 p5 p6 p7 p8 p9] [] ⟨7, 8, 7, 54⟩) pb, .Assign [.Attribute (.Name "self" q0) "part" q1] (.Name "part" q2) q3, .Assign [.Attribute (.Name "self" r0) "number" r1] (.Name "number" r2) r3]
def bpS : Scope := { kind := .function, names := [(PySem.Str.ofString "self", .local), (PySem.Str.ofString "part", .local), (PySem.Str.ofString "number", .local), (PySem.Str.ofString "__class__", .free), (PySem.Str.ofString "super", .globalImplicit)], isGenerator := false, isCoroutine := false, more := [] }
/-- what the written part says of the class (at C) and of its __init__ (at fI) -/
structure BpTxt (prog : Program) (K : Frag) (mg : Str → Option Value) (C fI : Addr) : Prop where
  gC : mg "BadPart" = some (.ref C)
  cls : ∃ nm q N bs bm sn sub ab col dd k0 k1 k2 k3 k5, K.lookup C = some (excClassObj nm q C N bs bm true sn sub ab col dd k0 k1 k2 k3 k5 "ValueError.__new__") ∧ refsVE bm = true
  sa : findIn K (.ref C) "__setattr__" = some (some (.builtin "object.__setattr__"))
  noP : findIn K (.ref C) "part" = some none
  noN : findIn K (.ref C) "number" = some none
  iC : findIn K (.ref C) "__init__" = some (some (.ref fI))
  tC : typeIn K (.ref fI) = some (.type "function")
  kC : keepIn K (.ref C) = true
  xf : L2.XfC K C
  tyC : typeIn K (.ref C) = some (.type "type")
  te : exmOne K (.ref C) (.ref C) = some true
  opq : nsIn K cStatics "thirdparty.any" = some none
  sup : ks_superIn K C C "__init__" = some (some (.builtin "ValueError.__init__"))
  sub : subIn K (.ref C) (.type "ValueError") = some true
  own : mroIn K C (.ref C) = some true
  noS : nsIn K mainGlobals "super" = some none
  top : (prog.main.scope.names.lookup ("super" : Str)).isSome = false
  fn : ∃ (oc : Value) (od : Option Addr) (kV doc pm : Value) (an : Option Addr) (cda cc : Addr) (ct : Value) (osl : Array (Option Value)) (a1 a2 a3 p0 p1 p3 p4 p5 p6 p7 p8 p9 pb q0 q1 q2 q3 r0 r1 r2 r3 : Pos) (cl ccl : Value) (cld cdd : Option Addr) (csl ccs : Array (Option Value)) (vs : Array Value) (file : Str) (tf : Tok),
    K.lookup fI = some ⟨oc, od, .func (ksFn "__init__" "BadPart.__init__" (bpA a1 a2 a3) (bpB p0 p1 p3 p4 p5 p6 p7 p8 p9 pb q0 q1 q2 q3 r0 r1 r2 r3) bpS .none kV doc pm an (.ref cda) ct cc), osl⟩ ∧ codeIn K (.ref cda) "BadPart.__init__" = true ∧
    K.lookup cda = some ⟨ccl, cdd, .fields vs, ccs⟩ ∧ vs[2]? = some (.str file tf) ∧ ((prog.main.file : Str) == file) = true ∧ K.lookup cc = some ⟨cl, cld, .cell (some (.ref C)), csl⟩
/-- what __init__ leaves of a fresh error at x -/
structure BpEnd (h h' : Heap) (x C dx : Addr) (vp vn : Value) : Prop where
  keep : ∀ b o, b ≠ x → h.get? b = some o → h'.get? b = some o
  obj : ∃ t1 : Addr, h'.get? x = some { cls := .ref C, dict := some dx, data := .fields #[.ref t1, .none, .none, .none, .bool false, .none] }
  dbig : h.objs.size ≤ dx
  dne : dx ≠ x
  ns : h'.Ns1 dx (fun y => if y = "number" then some vn else if y = "part" then some vp else none)
section
variable {prog : Program} {w : World} {A : Around} {E : Value → Shared → Prop} {R : Result → Shared → Prop} {s : Shared} {K : Frag} {mg mb : Str → Option Value} {C fI : Addr}
theorem ldN {M : Model} {env : Env} {L : Addr} {m : Str → Option Value} {x : Str} {pos : Pos} {v : Value} {Q : Value → Shared → Prop} (hf : env.locals = L) (hn : s.heap.Ns L m) (hv : m x = some v) (h : Q v s)
    (hk : env.scope.kind = .function := by rfl) (hl : env.kindOf x = some .local := by rfl) (hd : (x == ("__debug__" : Str)) = false := by decide) :
    wpAny M A (eval (.Name x pos) env) Q E s := by
  subst hf
  exact wpAny_Name (wpAny_loadName_local hk hl hn hv h) hd
/-- the text of the error -/
theorem bp_text {env : Env} {L : Addr} {m : Str → Option Value} {y : Str} {ty ti : Tok} {i : Int} {p3 p4 p5 p6 p7 p8 p9 : Pos} {Q : Value → Shared → Prop} (hf : env.locals = L) (hk : env.scope.kind = .function) (hl1 : env.kindOf "part" = some .local) (hl2 : env.kindOf "number" = some .local)
    (hn : s.heap.Ns L m) (h1 : m "part" = some (.str y ty)) (h2 : m "number" = some (.int i ti)) (hy : y.length ≤ 1000) (hi : i.natAbs.log2 < 1920) (hz : (PySem.Str.ofString (toString i)).length ≤ 1000) (hq : ∀ (out : Str) (t1 t2 : Tok), out.length ≤ sizeLine → Q (.str out t1) { s with toks := t2 }) :
    wpAny (model prog w) A (eval (bpJ p3 p4 p5 p6 p7 p8 p9) env) Q E s := by
  have SL := sizeLine_eq
  have e1 : (PySem.Str.ofString "bad part: ").length = 10 := by decide +kernel
  have e2 : (PySem.Str.ofString " ").length = 1 := by decide +kernel
  have e0 : Str.empty.length = 0 := by decide +kernel
  unfold bpJ
  refine wpAny_JoinedStr ?_
  refine wpAny_Constant_str ⟨_, _, rfl, by rw [strLen_append, e0, e1, SL]; decide, ?_⟩
  refine wpAny_FormattedValue_plain (ldN hf hn h1 ?_ hk hl1)
  have last : ∀ (tk : Tok) (acc : Str), acc.length ≤ 2000 → wpAny (model prog w) A (eval (.FormattedValue (.Name "number" p7) (-1) none p8) env) (fun v s₁ => ∃ y t, v = .str y t ∧ (acc ++ y).length ≤ sizeLine ∧ Joins (model prog w) A E [] (acc ++ y) (fun out s₁ => out.length ≤ sizeLine ∧ Q (.str out s₁.toks) { s₁ with toks := s₁.toks + 1 }) s₁) E { s with toks := tk } := fun tk acc ha => by
    refine wpAny_FormattedValue_plain (ldN (s := { s with toks := tk }) hf hn h2 ?_ hk hl2)
    refine wpAny_formatField_int hi ⟨_, _, rfl, ?_, ?_, ?_⟩
    · rw [strLen_append, SL]; omega
    · rw [strLen_append, SL]; omega
    · exact hq _ _ _ (by rw [strLen_append, SL]; omega)
  have mid : ∀ (tk t : Tok), ∃ y' t', Value.str y t = .str y' t' ∧ (Str.empty ++ PySem.Str.ofString "bad part: " ++ y').length ≤ sizeLine ∧ Joins (model prog w) A E (evalEach [.Constant (.str " ") 0 p6, .FormattedValue (.Name "number" p7) (-1) none p8] env) (Str.empty ++ PySem.Str.ofString "bad part: " ++ y') (fun out s₁ => out.length ≤ sizeLine ∧ Q (.str out s₁.toks) { s₁ with toks := s₁.toks + 1 }) { s with toks := tk } := fun tk t => by
    refine ⟨_, _, rfl, by rw [strLen_append, strLen_append, e0, e1, SL]; omega, ?_⟩
    refine wpAny_Constant_str ⟨_, _, rfl, by rw [strLen_append, strLen_append, strLen_append, e0, e1, e2, SL]; omega, ?_⟩
    exact last _ _ (by rw [strLen_append, strLen_append, strLen_append, e0, e1, e2]; omega)
  exact wpAny_formatField_str (mid _ _) (mid _ _) (by rw [SL]; omega)
/-- the built-in __init__, bound, called: the args are laid anew -/
theorem bound_call {u e t0 : Addr} {rest : List Value} {nm q : Str} {N : Addr} {bs bm : List Value} {hdct : Bool} {sn : List Str} {sub : List Value} {ab : Bool} {col : Option Bool} {dd : Option Addr} {k0 k1 k2 k3 k5 : Option Value} {Q : Value → Shared → Prop}
    (hC : s.heap.get? C = some (excClassObj nm q C N bs bm hdct sn sub ab col dd k0 k1 k2 k3 k5 "ValueError.__new__")) (he : s.heap.get? e = some (excO C t0)) (hu : s.heap.get? u = some (kxs_mw "ValueError.__init__" e)) (hrest : rest.length ≤ sizeLine)
    (hq : ∀ h' t1, (∀ b o, b ≠ e → s.heap.get? b = some o → h'.get? b = some o) → h'.get? e = some (excO C t1) → Q .none { s with heap := h' }) :
    wpAny (model prog w) A (call (.ref u) rest) Q E s := by
  obtain ⟨h, g, d, t, os⟩ := s
  refine wpAny_call (codeAny_of_tree ?_)
  show wpAny _ A.in1 (callAny (.ref u) ⟨rest, []⟩) _ _ _
  unfold callAny
  refine wpAny_bind (wpAny_load hu ?_)
  dsimp only
  refine KFB.if_so (by decide) ?_
  refine KFB.if_so (by decide) ?_
  refine wpAny_bind (ESX.check_bound F.excBase_ValueError hC he rfl ?_)
  refine wpAny_bind (wpAny_pure (wpAny_pure ?_))
  refine ⟨plainId_quiet F.excBase_ValueError.init.plain _, codeAny_builtin F.excBase_ValueError.initEntry ?_⟩
  rw [Around.under_plainId F.excBase_ValueError.init.plain _]
  wp_walk
  refine hq _ h.objs.size (fun b o hb ho => (Heap.get?_update_other _ _ (Ne.symm hb)).trans (Heap.get?_push_of_some _ ho)) ?_
  rw [Heap.get?_update_self _ (Heap.get?_push_of_some _ he) rfl]
  rfl
theorem bpS_cell : ∀ x ∈ bpS.names, x.2 ≠ .cell := by decide +kernel
theorem bpS_loc {x y z : Value} : ∀ u ∈ [(("self" : Str), x), (("part" : Str), y), (("number" : Str), z)], bpS.names.lookup u.1 = some .local := fun u hu => by
  simp only [List.mem_cons, List.not_mem_nil, or_false] at hu
  rcases hu with rfl | rfl | rfl <;> first | rfl | decide +kernel
/-- BadPart.__init__(e, part, number) -/
theorem bp_init (T : BpTxt prog K mg C fI) {x t0 : Addr} {y : Str} {ty ti : Tok} {i : Int} (X : K.In s.heap) (hlim : s.heap.NoLimit) (hg : s.heap.Ns mainGlobals mg) (hb : s.heap.Ns builtinsNs mb) (hbs : mb "super" = some (.type "super")) (hx : s.heap.get? x = some (excO C t0)) (hnx : K.lookup x = none)
    (hy : y.length ≤ 1000) (hi : i.natAbs.log2 < 1920) (hz : (PySem.Str.ofString (toString i)).length ≤ 1000) (hroom : A.depth < recursionLimit)
    (hq : ∀ h' tk dx, BpEnd s.heap h' x C dx (.str y ty) (.int i ti) → R (.ok (.ret .none)) { s with heap := h', toks := tk }) :
    codeAny (model prog w) A (.call (.ref fI) ⟨[.ref x, .str y ty, .int i ti], []⟩) R s := by
  obtain ⟨oc, od, kV, doc, pm, an, cda, cc, ct, osl, a1, a2, a3, p0, p1, p3, p4, p5, p6, p7, p8, p9, pb, q0, q1, q2, q3, r0, r1, r2, r3, cl, ccl, cld, cdd, csl, ccs, vs, file, tf, lf, lc, lk, lv, lfile, lcell⟩ := T.fn
  obtain ⟨nm, q, N, bs, bm, sn, sub, ab, col, dd, k0, k1, k2, k3, k5, hC, hbm⟩ := T.cls
  have hcl : clsIn K C = some { name := nm, bases := bs, mro := .ref C :: bm, ns := N, qualname := q, hasDict := true, slotNames := sn, subclasses := sub, abstract := ab, collection := col, hasDel := false } := by unfold clsIn; rw [hC] <;> rfl
  refine ks_codeAny_call_defAt (fd := ksFn "__init__" "BadPart.__init__" (bpA a1 a2 a3) (bpB p0 p1 p3 p4 p5 p6 p7 p8 p9 pb q0 q1 q2 q3 r0 r1 r2 r3) bpS .none kV doc pm an (.ref cda) ct cc) (binds := [("self", .ref x), ("part", .str y ty), ("number", .int i ti)]) hroom (X _ _ lf) rfl hlim (codeRec_of X lc) rfl (BindsTo.of_eq (by first | rfl | with_unfolding_all rfl)) bpS_cell bpS_loc (fun h₁ hns k => ?_) rfl rfl rfl
  show _root_.PySem.wpAt _ (A.deeper (ksEnv "BadPart.__init__" bpS s.heap.objs.size fI (.ref cda) cc)) (.func _ (ksEnv "BadPart.__init__" bpS s.heap.objs.size fI (.ref cda) cc)) (execs _ (ksEnv "BadPart.__init__" bpS s.heap.objs.size fI (.ref cda) cc)) _ _ _
  obtain ⟨hp, g, dr, tk, os⟩ := s
  have hLx : hp.objs.size ≠ x := Nat.ne_of_gt (Heap.lt_size hx)
  have m1 : (fun z : Str => List.lookup z ([(("self" : Str), Value.ref x), (("part" : Str), Value.str y ty), (("number" : Str), Value.int i ti)] : List (Str × Value)).reverse) "self" = some (.ref x) := by first | rfl | with_unfolding_all rfl | kernel_rfl
  have m2 : (fun z : Str => List.lookup z ([(("self" : Str), Value.ref x), (("part" : Str), Value.str y ty), (("number" : Str), Value.int i ti)] : List (Str × Value)).reverse) "part" = some (.str y ty) := by first | rfl | with_unfolding_all rfl | kernel_rfl
  have m3 : (fun z : Str => List.lookup z ([(("self" : Str), Value.ref x), (("part" : Str), Value.str y ty), (("number" : Str), Value.int i ti)] : List (Str × Value)).reverse) "number" = some (.int i ti) := by first | rfl | with_unfolding_all rfl | kernel_rfl
  generalize (fun z : Str => List.lookup z ([(("self" : Str), Value.ref x), (("part" : Str), Value.str y ty), (("number" : Str), Value.int i ti)] : List (Str × Value)).reverse) = mm at hns m1 m2 m3
  have X₁ : K.In h₁ := X.keeps k
  have hx₁ : h₁.get? x = some (excO C t0) := k _ _ hx
  have I₁ : InstAt h₁ x (excO C t0) C none := ⟨hx₁, rfl, rfl, trivial⟩
  have hne : x ≠ C := fun z => by rw [z, hC] at hnx; cases hnx
  unfold bpB
  refine ks_wpAt_execs_cons (ks_wpAt_Expr_any (ks_wpAt_MethodCall ?_))
  refine ks_wpAt_super_base (env := ksEnv "BadPart.__init__" bpS hp.objs.size fI (.ref cda) cc) (by first | rfl | decide +kernel) (by first | rfl | decide +kernel) (by decide) rfl (X₁ _ _ lf) rfl rfl rfl (X₁ _ _ lk) rfl lv lfile T.top ?_
  refine ks_loadName_global rfl (by first | rfl | decide +kernel) (loadGlobal_builtin (env := ksEnv "BadPart.__init__" bpS hp.objs.size fI (.ref cda) cc) (hg.keeps k) (mg_none_of X hg T.noS) (hb.keeps k) hbs ⟨rfl, ?_⟩)
  refine wpAny_loadName_free rfl (by first | rfl | decide +kernel) rfl ⟨_, X₁ _ _ lcell, rfl⟩ ?_
  refine wpAny_loadName_local rfl (by first | rfl | decide +kernel) hns m1 ?_
  refine ks_wpAny_isType_cls (X₁ _ _ hC) rfl ⟨rfl, ?_⟩
  refine ks_wpAny_call_super (X₁ _ _ hC) rfl hx₁ rfl (fun c e => by cases e) (looks_mroIn X₁ T.own) (fun h₂ hso k₂ => ?_)
  have X₂ : K.In h₂ := X₁.keeps k₂
  have I₂ : InstAt h₂ x (excO C t0) C none := ⟨k₂ _ _ hx₁, rfl, rfl, trivial⟩
  have hsup : alongIn K "__init__" ((((Value.ref C :: bm).dropWhile (· != .ref C)).drop 1)) = some (some (.builtin "ValueError.__init__")) := by
    have := T.sup
    unfold ks_superIn at this
    rw [hcl] at this
    exact this
  refine kxs_getMethod kxs_ValueError hso (looks_opaque X₂ T.opq) (l₀ := .ref C :: bm) (fun A Q E s k q => wpAny_bind ((looks_clsIn X₂ hcl) A _ E s k (wpAny_pure q))) rfl X₂ hsup (I₂.type.andThen (looks_subIn X₂ T.sub)) hne (by decide) ?_
  have k₃ : ∀ b o, h₂.get? b = some o → (h₂.push (kxs_mw "ValueError.__init__" x)).get? b = some o := fun b o e => Heap.get?_push_of_some _ e
  have hu : (h₂.push (kxs_mw "ValueError.__init__" x)).get? h₂.objs.size = some (kxs_mw "ValueError.__init__" x) := Heap.get?_push_at rfl rfl
  generalize h₂.objs.size = u at hu ⊢
  generalize h₂.push (kxs_mw "ValueError.__init__" x) = h₃ at hu k₃ ⊢
  have kk : ∀ b o, h₁.get? b = some o → h₃.get? b = some o := fun b o e => k₃ b o (k₂ b o e)
  have X₃ : K.In h₃ := X₁.keeps kk
  have hns₃ := hns.keeps kk
  have hx₃ : h₃.get? x = some (excO C t0) := kk _ _ hx₁
  clear I₁ I₂ hsup hso k₂ k₃ X₂
  refine kxs_callWith (i := "ValueError.__init__") (x := x) rfl (evalArgs_plain (spliced_cons (bp_text (p9 := p9) rfl rfl (by first | rfl | decide +kernel) (by first | rfl | decide +kernel) hns₃ m2 m3 hy hi hz fun out t1 t2 ho => spliced_nil ?_)))
  refine ⟨hu, bound_call (X₃ _ _ hC) hx₃ hu (by show 1 ≤ sizeLine; rw [sizeLine_eq]; decide) fun h₄ t4 k₄ hx₄ => ?_⟩
  have X₄ : K.In h₄ := fun b o e => k₄ b o (fun z => by rw [z, hnx] at e; cases e) (X₃ b o e)
  have hns₄ := hns₃.at (fun o e => k₄ _ o hLx e)
  have L4 : hp.objs.size < h₄.objs.size := hns₄.lt
  show _root_.PySem.wpAt _ _ _ (execs _ _) _ _ _
  refine wpAt_of_wpAny (wpAny_execs_cons (plainObj_wpAny_Assign_Attribute ?_))
  refine ldN (s := ⟨h₄, g, dr, _, os⟩) rfl hns₄ m2 (ldN (s := ⟨h₄, g, dr, _, os⟩) rfl hns₄ m1 ?_ rfl (by first | rfl | decide +kernel)) rfl (by first | rfl | decide +kernel)
  refine set_plain X₄ (ox := excO C t4) (od := none) ⟨hx₄, rfl, rfl, trivial⟩ T.sa ?_
  refine exc_osa X₄ hx₄ hcl (show refsVE (.ref C :: bm) = true from hbm) rfl T.noP (fun h₅ tk₅ dx k₅ dn dne hx₅ hn₅ => ?_)
  have dn' : h₄.objs.size ≤ dx := dn
  clear dn
  have X₅ : K.In h₅ := fun b o e => k₅ b o (fun z => by rw [z, hnx] at e; cases e) (X₄ b o e)
  have hns₅ := hns₄.at (fun o e => k₅ _ o hLx e)
  show wpAny _ _ (execs _ _) _ _ _
  refine wpAny_execs_cons (plainObj_wpAny_Assign_Attribute ?_)
  refine ldN (s := ⟨h₅, g, dr, _, os⟩) rfl hns₅ m3 (ldN (s := ⟨h₅, g, dr, _, os⟩) rfl hns₅ m1 ?_ rfl (by first | rfl | decide +kernel)) rfl (by first | rfl | decide +kernel)
  have wi : Within (fun z : Str => if z = "part" then some (Value.str y ty) else none) ["part"] := Within.cons "part" (.str y ty) Within.nil
  obtain ⟨oD, _, _, hoD, _, _⟩ := hn₅.count wi
  refine set_plain X₅ (ox := { cls := .ref C, dict := some dx, data := .fields #[.ref t4, .none, .none, .none, .bool false, .none] }) (od := some oD) ⟨hx₅, rfl, rfl, hoD⟩ T.sa ?_
  refine PySem.OEX.osa_old X₅ hx₅ hn₅ wi (by decide) hcl (show refsVE (.ref C :: bm) = true from hbm) rfl T.noN (fun h₆ tk₆ k₆ hn₆ => ?_)
  show wpAny _ _ (execs _ _) _ _ _
  refine wpAny_execs_nil (hq h₆ tk₆ dx ⟨fun b o hb e => ?_, ⟨t4, k₆ _ _ (Ne.symm dne) hx₅⟩, Nat.le_trans (Nat.le_of_lt L4) dn', dne, hn₆⟩)
  have e1 : h₃.get? b = some o := kk b o (k b o e)
  have e2 := k₄ b o hb e1
  exact k₆ b o (fun z => by rw [z] at e2; exact absurd (Heap.lt_size e2) (Nat.not_lt.mpr dn')) (k₅ b o hb e2)
/-- a made BadPart -/
structure BpMade (h h' : Heap) (e C d : Addr) (vp vn : Value) : Prop where
  keep : ∀ b o, h.get? b = some o → h'.get? b = some o
  new : h.objs.size ≤ e
  obj : ∃ oe vs, h'.get? e = some oe ∧ oe.cls = .ref C ∧ oe.dict = some d ∧ oe.data = .fields vs ∧ vs[1]? = some .none
  dbig : h.objs.size ≤ d
  dne : d ≠ e
  ns : h'.Ns1 d (fun y => if y = "number" then some vn else if y = "part" then some vp else none)
theorem bp_made (T : BpTxt prog K mg C fI) {y : Str} {ty ti : Tok} {i : Int} (X : K.In s.heap) (hlim : s.heap.NoLimit) (hg : s.heap.Ns mainGlobals mg) (hb : s.heap.Ns builtinsNs mb) (hbs : mb "super" = some (.type "super"))
    (hy : y.length ≤ 1000) (hi : i.natAbs.log2 < 1920) (hz : (PySem.Str.ofString (toString i)).length ≤ 1000) (hroom : A.depth + 1 < recursionLimit)
    (hq : ∀ h' tk e d, BpMade s.heap h' e C d (.str y ty) (.int i ti) → R (.ok (.ret (.ref e))) { s with heap := h', toks := tk }) :
    codeAny (model prog w) A (.call (.ref C) ⟨[.str y ty, .int i ti], []⟩) R s := by
  obtain ⟨nm, q, N, bs, bm, sn, sub, ab, col, dd, k0, k1, k2, k3, k5, hC, hbm⟩ := T.cls
  obtain ⟨hp, g, dr, tk, os⟩ := s
  have k : ∀ b o, hp.get? b = some o → ((hp.push (kdv_tup [.str y ty, .int i ti])).push (excO C hp.objs.size)).get? b = some o := fun b o e => Heap.get?_push_of_some _ (Heap.get?_push_of_some _ e)
  have hget : ((hp.push (kdv_tup [.str y ty, .int i ti])).push (excO C hp.objs.size)).get? (hp.objs.size + 1) = some (excO C hp.objs.size) := by heap_get
  have hnx : K.lookup (hp.objs.size + 1) = none := by
    cases e : K.lookup (hp.objs.size + 1) with
    | none => rfl
    | some o => exact absurd (Nat.lt_of_succ_lt (Heap.lt_size (show hp.get? (hp.objs.size + 1) = some o from X _ _ e))) (Nat.lt_irrefl _)
  refine call_own F.excBase_ValueError (fun Y => refsVE_contains Y bm hbm) (X _ _ hC) (looks_findIn X T.iC) (fun self => bind_fn X self T.tC) (by show 2 ≤ sizeLine; rw [sizeLine_eq]; decide) ?_
  refine bp_init (s := ⟨(hp.push (kdv_tup [.str y ty, .int i ti])).push (excO C hp.objs.size), g, dr, tk, os⟩) T (X.keeps k) (hlim.keeps k) (hg.keeps k) (hb.keeps k) hbs hget hnx hy hi hz hroom fun h' tk' dx M => ?_
  have old : ∀ b o, hp.get? b = some o → h'.get? b = some o := fun b o e => M.keep b o (Nat.ne_of_lt (Nat.lt_succ_of_lt (Heap.lt_size e))) (k b o e)
  have z : hp.objs.size + 1 + 1 ≤ dx := by
    have q := M.dbig
    first
      | exact q
      | (rw [Heap.size_push, Heap.size_push] at q; exact q)
      | (simpa only [Heap.size_push] using q)
  obtain ⟨t1, ho⟩ := M.obj
  exact ⟨rfl, hq h' tk' (hp.objs.size + 1) dx ⟨old, Nat.le_succ _, ⟨_, _, ho, rfl, rfl, rfl, rfl⟩, Nat.le_trans (Nat.le_add_right _ 2) z, M.dne, M.ns⟩⟩
end
end EX
namespace L2
open PySem PySem.Spec PyProof.Rows
/-- what BadPart(part, number) holds -/
def bpF (y : Str) (i : Int) : List (Str × V) := [(("number" : Str), .int i), (("part" : Str), .str y)]
theorem bp_rel {y : Str} {i : Int} {ty ti : Tok} (f : Str) : RelO (List.lookup f (bpF y i)) (if f = "number" then some (Value.int i ti) else if f = "part" then some (Value.str y ty) else none) := by
  unfold bpF
  rw [lookup_put, lookup_put]
  by_cases h1 : f = "number"
  · rw [if_pos h1, if_pos h1]
    exact ⟨_, rfl⟩
  · rw [if_neg h1, if_neg h1]
    by_cases h2 : f = "part"
    · rw [if_pos h2, if_pos h2]
      exact ⟨_, rfl⟩
    · rw [if_neg h2, if_neg h2]
      trivial
/-- BadPart(part, number) -/
def tMkBp (C : Addr) (ta : TA) : St → Hp → XK → Prop := fun σ H Q => ta σ H fun vs H1 => ∃ y i, vs = [.str y, .int i] ∧ SX.BpSz y i ∧ ∀ d, H1 d = none → Q (.ref C) (some d) (upd H1 d (.xd (bpF y i)))
section
variable {X : Cx} {C fI : Addr}
theorem pmk_bp {a b : Expr} {ta : TA} {p pos : Pos} {k : Nat} (T : EX.BpTxt X.prog X.K X.mg C fI) (hr : Room k X.A) (ha : PA X [a, b] ta) (hg : Gl X "BadPart" := by rfl)
    (he : starEach [a, b] X.env = (false, eval a X.env) :: starEach [b] X.env := by rfl) (hpl : (backTo pos (starEach [b] X.env)).any (·.1) = false := by rfl) :
    PMk X (.Call (.Name "BadPart" p) [a, b] [] pos) (tMkBp C ta) := by
  intro pins s σ H Q I h
  refine wpAny_Call_Name_kw (ld_glob I hg T.gC ?_)
  refine PySem.W.callWith_K (h₀ := X.base) I.ok.mod.kin T.kC (thn (ha.run pos pins s σ H _ I h) fun us s1 hh => ?_) he hpl
  obtain ⟨vs, H1, I1, r1, y, i, ev, sz, q1⟩ := hh
  subst ev
  refine ⟨I1.kIn, ?_⟩
  cases r1 with
  | cons rv rn =>
    rename_i v1 us'
    cases rn with
    | cons rw rn =>
      rename_i v2 us''
      cases rn
      obtain ⟨ty, rfl⟩ := rv
      obtain ⟨ti, rfl⟩ := rw
      show wpAny _ _ (call (.ref C) [.str y ty, .int i ti]) _ _ _
      have hlim := I1.nolimit
      obtain ⟨mb, h1, h2⟩ := I1.mod.blt
      have hG := I1.mod.glob.keeps I1.bk
      have hB := h1.keeps I1.bk
      obtain ⟨hp, g, dr, tk, os⟩ := s1
      refine wpAny_call (EX.bp_made T I1.kIn hlim hG hB ((h2 _ (by decide)).trans (by first | rfl | decide +kernel)) sz.hy sz.hi sz.hz (by have := hr.dp; omega) fun h' tk' e d M => ?_)
      show MkP X pins σ Q (.ref e) ⟨h', g, dr, tk', os⟩
      obtain ⟨oe, fv, hoe, hc, hd, hdat, h1⟩ := M.obj
      have hns := M.ns
      obtain ⟨G', g1, g2⟩ := restrict h' fun b => decide (b ≠ e)
      have gk : ∀ b, b ≠ e → G'.get? b = h'.get? b := fun b hb => g1 b (decide_eq_true hb)
      have ge : G'.get? e = none := g2 e (by simp)
      have old : ∀ b o, hp.get? b = some o → G'.get? b = some o := fun b o q => (gk b (Nat.ne_of_lt (Nat.lt_of_lt_of_le (Heap.lt_size q) M.new))).trans (M.keep b o q)
      have J : Inv X pins σ (upd H1 d (.xd (bpF y i))) ⟨G', g, dr, tk', os⟩ := I1.laid (t' := tk') old M.dbig ⟨_, hns.at (fun o q => (gk d M.dne).trans q), fun f => bp_rel f⟩
      refine ⟨e, oe, fv, ⟨G', g, dr, tk', os⟩, _, .ref C, some d, rfl, J, fun b o q => ?_, ge, hoe, ⟨hc, hd⟩, hdat, h1, ?_, rfl, I1.bare, raises_own T.xf.exC T.tyC, q1 d (I1.hok.fresh M.dbig)⟩
      · by_cases hb : b = e
        · rw [hb] at q
          exact absurd (ge.symm.trans q) (by simp)
        · exact (gk b hb).symm.trans q
      · rw [upd_ne (Ne.symm M.dne)]
        exact I1.hok.fresh M.new
end
end L2
namespace SX
open PySem PySem.Spec PyProof.Rows L2
noncomputable section
open Classical
variable [Tabs]
/-! ### a wish with errors: what the small run returns is the error's own pair -/
/-- the error of the class at C, in flight -/
def FlyX (C : Addr) (W : XK) (d : D) (H : Hp) : Prop := ∃ y i, d = .tup [.str y, .int i] ∧ BpSz y i ∧ ∀ dd, H dd = none → W (.ref C) (some dd) (upd H dd (.xd (bpF y i)))
def GotX (K : PySem.W.Frag) (C : Addr) (W : XK) (ι : List Addr) (H : Hp) (r : Res (Flow × Env)) (E : Ends) : Prop :=
  ∃ fl env' S', r = .ok (fl, env') S' ∧ ∀ ι' H' σ', Step ι H ι' H' → SR K ι' S' H' → REnv K ι' H' env' σ' → match fl with
    | .next => E.nx σ' H'
    | .brk => E.bk σ' H'
    | .cont => E.ct σ' H'
    | .ret d => d ≠ .non → FlyX C W d H'
def RdX (K : PySem.W.Frag) (C : Addr) (W : XK) (f : Env → Store → Res (Flow × Env)) : TS := fun E σ H => ∃ ι env S, REnv K ι H env σ ∧ SR K ι S H ∧ GotX K C W ι H (f env S) E
section
variable {K : PySem.W.Frag} {C : Addr} {W : XK} {ι ι' : List Addr} {H H' : Hp} {α : Type} {Z : Ends} {env : Env} {σ : L2.St} {S : Store} {F : Fns}
theorem gx_step {r : Res (Flow × Env)} (st : Step ι H ι' H') (g : GotX K C W ι H r Z) : GotX K C W ι' H' r Z := by
  obtain ⟨fl, e, S', h1, h⟩ := g
  exact ⟨fl, e, S', h1, fun ι2 H2 σ2 s2 => h ι2 H2 σ2 (st.trans s2)⟩
theorem gx_bnd {r : Res α} {k : α → Store → Res (Flow × Env)} (g : GotX K C W ι H (r.bnd k) Z) : ∃ c S1, r = .ok c S1 ∧ GotX K C W ι H (k c S1) Z := by
  obtain ⟨fl, e, S', h1, h⟩ := g
  obtain ⟨c, S1, e1, e2⟩ := bnd_eq_ok h1
  exact ⟨c, S1, e1, fl, e, S', e2, h⟩
theorem gx_bad (g : GotX K C W ι H .bad Z) : False := by
  obtain ⟨_, _, _, e, _⟩ := g
  cases e
theorem gx_nx {env' : Env} (g : GotX K C W ι H (.ok (.next, env') S) Z) (s : SR K ι S H) (r : REnv K ι H env' σ) : Z.nx σ H := by
  obtain ⟨_, _, _, e, h⟩ := g
  cases e
  exact h ι H σ Step.refl s r
theorem gx_Es {e : Es} {k : List D → Store → Res (Flow × Env)} (re : REnv K ι H env σ) (s : SR K ι S H) (g : GotX K C W ι H ((evEs F e env S).bnd k) Z)
    {P : List V → Hp → Prop} (h : ∀ ι1 H1 d v S1, Step ι H ι1 H1 → REnv K ι1 H1 env σ → SR K ι1 S1 H1 → Reps K ι1 H1 d v → GotX K C W ι1 H1 (k d S1) Z → P v H1) : RdEs K F e σ H P := by
  obtain ⟨d, S1, e1, g1⟩ := gx_bnd g
  exact ⟨ι, env, S, re, s, d, S1, e1, fun ι1 H1 v st s1 r => h ι1 H1 d v S1 st (re.step st) s1 r (gx_step st g1)⟩
theorem gx_B {f : Env → Store → Res Bool} {k : Bool → Store → Res (Flow × Env)} (re : REnv K ι H env σ) (s : SR K ι S H) (g : GotX K C W ι H ((f env S).bnd k) Z)
    {P : Bool → Hp → Prop} (h : ∀ ι1 H1 b S1, Step ι H ι1 H1 → REnv K ι1 H1 env σ → SR K ι1 S1 H1 → GotX K C W ι1 H1 (k b S1) Z → P b H1) : RdB K f σ H P := by
  obtain ⟨d, S1, e1, g1⟩ := gx_bnd g
  exact ⟨ι, env, S, re, s, d, S1, e1, fun ι1 H1 v st s1 r => by subst r; exact h ι1 H1 d S1 st (re.step st) s1 (gx_step st g1)⟩
end
theorem fo_readX {K : PySem.W.Frag} {C : Addr} {W : XK} {F : Fns} {t : Tg} {it : It} {b : Ss} {D : Ends} {σ : L2.St} {H : Hp} (h : RdX K C W (exS F (.fo t it b)) D σ H) :
    tFor (RdI K F it) (TgS K t) (RdX K C W (exSs F b)) D σ H := by
  obtain ⟨ι, env, S, re, sr, g⟩ := h
  rw [exS] at g
  obtain ⟨w, S1, ew, g1⟩ := gx_bnd g
  refine ⟨ι, env, S, w, S1, re, sr, ew, fun ι1 H1 J st1 sr1 wk => ?_⟩
  have re1 := re.step st1
  have g2 := gx_step st1 g1
  let Wi : Nat → L2.St → Hp → Prop := fun i σc Hc => ∃ ιc envc Sc, Step ι1 H1 ιc Hc ∧ REnv K ιc Hc envc σc ∧ SR K ιc Sc Hc ∧ i ≤ w.items.length ∧ GotX K C W ιc Hc (forL w t (fun e s => exSs F b e s) (w.items.drop i) envc Sc) D
  refine ⟨fun i m σc Hc => m = w.items.length - i ∧ Wi i σc Hc, ⟨w.items.length, by simp, ι1, env, S1, Step.refl, re1, sr1, Nat.zero_le _, by simpa using g2⟩, ?_⟩
  rintro i m σc Hc ⟨rfl, ιc, envc, Sc, stc, rec_, src, hi, gL⟩
  by_cases hlt : i < w.items.length
  · refine .inr ?_
    rw [List.drop_eq_getElem_cons hlt] at gL
    unfold forL at gL
    split at gL
    · rename_i here
      split at gL
      · rename_i env1 e1
        refine ⟨wk.go i ιc Hc Sc stc.toMono src here hlt, Wi (i + 1), fun σ' H' hw => ⟨w.items.length - (i + 1), by omega, rfl, hw⟩, fun x Hy hy => ?_⟩
        obtain ⟨rd, sty, sry⟩ := wk.yld i ιc Hc Sc x Hy w.items[i] stc.toMono src here (List.getElem?_eq_getElem hlt) hy
        refine ⟨ιc, Sc, envc, w.items[i], env1, rec_.step sty, sry, rd, e1, fun σ1 re2 _ => ⟨ιc, env1, Sc, re2, sry, ?_⟩⟩
        obtain ⟨⟨fl2, env2⟩, S3, e3, g3⟩ := gx_bnd (gx_step sty gL)
        refine ⟨fl2, env2, S3, e3, fun ι4 H4 σ4 st4 sr4 re4 => ?_⟩
        have g4 := gx_step st4 g3
        cases fl2 with
        | next => exact ⟨ι4, env2, S3, (stc.trans sty).trans st4, re4, sr4, hlt, g4⟩
        | cont => exact ⟨ι4, env2, S3, (stc.trans sty).trans st4, re4, sr4, hlt, g4⟩
        | brk => exact gx_nx g4 sr4 re4
        | ret d =>
          obtain ⟨_, _, _, e5, q5⟩ := g4
          cases e5
          exact q5 ι4 H4 σ4 Step.refl sr4 re4
      · exact (gx_bad gL).elim
    · exact (gx_bad gL).elim
  · have hi2 : i = w.items.length := by omega
    subst hi2
    rw [List.drop_length] at gL
    unfold forL at gL
    split at gL
    · rename_i here
      exact .inl ⟨wk.stop _ ιc Hc _ stc.toMono src here (Nat.le_refl _), gx_nx gL src rec_⟩
    · exact (gx_bad gL).elim
/-! ### judgements without a wish, with one -/
section
variable {X : Cx} {pins : List (Addr × Obj)}
theorem PA.nox {es : List Expr} {t : TA} (h : PA X.nox es t) : PA X es t := ⟨fun pos pins s σ H Q I hw =>
  wpAny_mono (h.run pos pins s σ H Q (I.wish _) hw) (fun _ _ ⟨v, H', I', r, q⟩ => ⟨v, H', I'.unwish, r, q⟩) fun _ _ z => False.elim z⟩
theorem PK.nox {es : List Keyword} {t : TA} (h : PK X.nox es t) : PK X es t := ⟨fun pos pins s σ H Q I hw =>
  wpAny_mono (h.run pos pins s σ H Q (I.wish _) hw) (fun _ _ ⟨v, H', I', r, q⟩ => ⟨v, H', I'.unwish, r, q⟩) fun _ _ z => False.elim z⟩
theorem PS.nox {st : Stmt} {t : TS} (h : PS X.nox st t) : PS X st t := ⟨fun pins s σ H D I hw =>
  wpAny_mono (h.run pins s σ H D (I.wish _) hw) (fun _ _ q => q.unwish) fun _ _ z => False.elim z⟩
theorem PI.nox {tg iter : Expr} {wi : TI} (h : PI X.nox tg iter wi) : PI X tg iter wi := ⟨fun pins s σ H R I hw =>
  wpAny_mono (h.run pins s σ H R (I.wish _) hw) (fun v s1 h1 => wpAny_mono h1 (fun itv s2 ⟨it, fp, tn, J, H', e, I', T, t0, f, r⟩ => ⟨it, fp, tn, J, H', e, I'.unwish, T, t0, f, r⟩) fun _ _ z => False.elim z) fun _ _ z => False.elim z⟩
theorem PG.nox {e : Expr} {t : TG} (h : PG X.nox e t) : PG X e t := ⟨fun pins s σ H v u Q I r hw =>
  wpAny_mono (h.run pins s σ H v u Q (I.wish _) r hw) (fun _ _ ⟨σ', H', I', q⟩ => ⟨σ', H', I'.unwish, q⟩) fun _ _ z => False.elim z⟩
end
/-! ### defs that may raise -/
/-- what such a def promises -/
def GXp (K : PySem.W.Frag) (C : Addr) (n : Nat) (φ : List D → Store → Res D) : Sp := fun vs H Q W => vs.length = n ∧ ∃ ι S ds, SR K ι S H ∧ Reps K ι H ds vs ∧ ∃ d S', φ ds S = .ok d S' ∧ ∀ ι' H', Step ι H ι' H' → SR K ι' S' H' → (d = .non ∧ Q .non H') ∨ FlyX C W d H'
structure FnCX (X : Cx) (C : Addr) (k : Nat) (name : Str) (φ : List D → Store → Res D) (kw : List (Nat × List Str × List Nat)) : Prop where
  ex : ∃ fa fd ps, X.mg name = some (.ref fa) ∧ PySem.W.keepIn X.K (.ref fa) = true ∧ FnOk X.prog X.w X.K X.mg X.base (L2.CX X.prog X.w) k fa fd ps (GXp X.K C ps.length φ) ∧ L2.Binds X.K fd ps [] ∧ (∀ q ∈ kw, KB fd ps q.1 q.2.1 q.2.2) ∧ ∀ ds S d S', φ ds S = .ok d S' → ds.length = ps.length
structure FitsX (c : Cn) (F : Fns) (nt : Nat) (X : Cx) (C fI : Addr) (W : XK) : Prop where
  fits : FitsS c F X.nox
  tx : EX.BpTxt X.prog X.K X.mg C fI
  tk : Takes X (fun cls d _ H => W cls d H)
  hp : PassesOwn (PySem.model X.prog X.w) X.A X.env X.xe
  rm : ∃ k, Room k X.A ∧ ∀ g, c.nf ≤ g → g < nt → FnCX X C k (c.fn g) (F g) ((c.kw.filter fun q => q.1 == g).map (·.2))
mutual
def ckX (c : Cn) (nt : Nat) : St → Stmt → Bool
  | .ret e, s => match e, s with
    | .tup es, .Raise (some (.Call (.Name x _) [a, b] [] _)) none _ => decide (x = "BadPart") && glB c.sc x && ckEs c es [a, b]
    | _, _ => false
  | .callx g es, s => match s with
    | .Expr (.Call (.Name x _) (e :: fs) [] _) _ => decide (c.nf ≤ g) && decide (g < nt) && decide (c.fn g = x) && glB c.sc x && ckEs c es (e :: fs)
    | _ => false
  | .ite k a b, s => match s with
    | .If t x y _ => ckE c k t && ckXs c nt a x && ckXs c nt b y
    | _ => false
  | .fo t it b, s => match s with
    | .For tg iter x [] _ => ckT c t tg && ckIt c it tg iter && ckXs c nt b x
    | _ => false
  | .asg t e, s => ckS c (.asg t e) s
  | .aug i op e, s => ckS c (.aug i op e) s
  | _, _ => false
def ckXs (c : Cn) (nt : Nat) : Ss → List Stmt → Bool
  | .nil, [] => true
  | .cons s ss, x :: xs => ckX c nt s x && ckXs c nt ss xs
  | _, _ => false
end
theorem asg_nx {F : Fns} {t : Tg} {e : E} {env env' : Env} {S S' : Store} {fl : Flow} (h : exS F (.asg t e) env S = .ok (fl, env') S') : fl = .next := by
  rw [exS] at h
  obtain ⟨d, S1, -, h⟩ := bnd_eq_ok h
  split at h
  · cases h; rfl
  · cases h
theorem aug_nx {F : Fns} {i : Nat} {op : BO} {e : E} {env env' : Env} {S S' : Store} {fl : Flow} (h : exS F (.aug i op e) env S = .ok (fl, env') S') : fl = .next := by
  rw [exS] at h
  split at h
  · obtain ⟨d, S1, -, h⟩ := bnd_eq_ok h
    split at h
    · cases h; rfl
    · cases h
  · cases h
theorem plain_X {K : PySem.W.Frag} {C : Addr} {W : XK} {f : Env → Store → Res (Flow × Env)} (hn : ∀ env S fl env' S', f env S = .ok (fl, env') S' → fl = .next) {D : Ends} {σ : L2.St} {H : Hp} (q : RdX K C W f D σ H) : RdS K f D σ H := by
  obtain ⟨ι, env, S, re, sr, fl, env', S', e, k⟩ := q
  have := hn _ _ _ _ _ e
  subst this
  exact ⟨ι, env, S, re, sr, _, env', S', e, k⟩
theorem reps_pair {K : PySem.W.Frag} {ι : List Addr} {H : Hp} {y : Str} {i : Int} {vs : List V} (r : Reps K ι H [.str y, .int i] vs) : vs = [.str y, .int i] := by
  obtain ⟨v, w, rfl, h1, h2⟩ := r.uncons
  obtain ⟨v2, w2, rfl, h3, h4⟩ := h2.uncons
  have := h4.unnil
  subst this
  unfold Rep at h1 h3
  rw [h1, h3]
mutual
theorem sn_X {nt : Nat} {C fI : Addr} {W : XK} (F : Fns) : ∀ (s : St) (c : Cn) (X : Cx) (x : Stmt), FitsX c F nt X C fI W → ckX c nt s x = true → PS X x (RdX X.K C W (exS F s))
  | .ret e, c, X, x, f, h => by
    unfold ckX at h
    split at h
    · rename_i es nm p a b pos pos2
      simp only [Bool.and_eq_true, decide_eq_true_eq] at h
      obtain ⟨⟨rfl, h2⟩, h3⟩ := h
      obtain ⟨gl, gd⟩ := gl_in f.fits.fits h2
      obtain ⟨k, hr, _⟩ := f.rm
      have pa : PA X [a, b] (RdEs X.K F es) := PA.nox (sn_Es F es c X.nox [a, b] f.fits.fits h3)
      have hst : noStar a = true := by
        cases es with
        | nil => simp [ckEs] at h3
        | cons e1 es1 =>
          unfold ckEs at h3
          rw [Bool.and_eq_true] at h3
          exact ck_star h3.1
      have hpl := back_plain (pos := pos) (env := X.env) h3
      rw [star_each hst] at hpl
      refine PS.imp (ps_raise f.fits.fits.calm f.tk (pmk_bp f.tx hr pa gl (star_each hst) (by unfold backTo at hpl ⊢; rw [List.map_cons, List.any_cons, Bool.or_eq_false_iff] at hpl; exact hpl.2))) fun D σ H q => ?_
      obtain ⟨ι, env, S, re, sr, g⟩ := q
      rw [exS] at g
      obtain ⟨d, S1, e1, g⟩ := gx_bnd g
      rw [evE] at e1
      obtain ⟨ds, S2, e2, e3⟩ := bnd_eq_ok e1
      by_cases hl : ds.length ≤ LINE
      case neg =>
        rw [if_neg hl] at e3
        cases e3
      rw [if_pos hl] at e3
      cases e3
      refine ⟨ι, env, S, re, sr, ds, _, e2, fun ι1 H1 vs st sr1 r => ?_⟩
      obtain ⟨_, _, _, e5, q5⟩ := gx_step st g
      cases e5
      obtain ⟨y, i, ed, sz, w⟩ := q5 ι1 H1 σ Step.refl sr1 (re.step st) (by simp)
      cases ed
      exact ⟨y, i, reps_pair r, sz, w⟩
    · cases h
  | .callx g es, c, X, x, f, h => by
    unfold ckX at h
    split at h
    · rename_i nm p e0 fs pos pos2
      simp only [Bool.and_eq_true, decide_eq_true_eq] at h
      obtain ⟨⟨⟨⟨h0, h1⟩, rfl⟩, h2⟩, h3⟩ := h
      obtain ⟨gl, gd⟩ := gl_in f.fits.fits h2
      obtain ⟨k, hr, hf⟩ := f.rm
      obtain ⟨fa, fd, ps, hm, hk, ok, bi, _, hlen⟩ := (hf g h0 h1).ex
      have pa : PA X (e0 :: fs) (RdEs X.K F es) := PA.nox (sn_Es F es c X.nox (e0 :: fs) f.fits.fits h3)
      have hst : noStar e0 = true := by
        cases es with
        | nil => simp [ckEs] at h3
        | cons e1 es1 =>
          unfold ckEs at h3
          rw [Bool.and_eq_true] at h3
          exact ck_star h3.1
      have hpl := back_plain (pos := pos) (env := X.env) h3
      rw [star_each hst] at hpl
      have pe := pe_call (p := p) (E := W) ok hr gl hm hk bi .nil (passes_call f.tk fun _ _ _ _ z => z) pa gd (star_each hst) (pos := pos) (by unfold backTo at hpl ⊢; rw [List.map_cons, List.any_cons, Bool.or_eq_false_iff] at hpl; exact hpl.2)
      refine PS.imp (ps_expr pe) fun D σ H q => ?_
      obtain ⟨ι, env, S, re, sr, gg⟩ := q
      rw [exS] at gg
      refine gx_Es re sr gg fun ι1 H1 ds vs S1 st re1 sr1 r g1 => ?_
      rw [List.append_nil]
      obtain ⟨d, S2, e2, g2⟩ := gx_bnd g1
      refine ⟨by rw [← r.len]; exact hlen _ _ _ _ e2, ι1, S1, ds, sr1, r, d, S2, e2, fun ι2 H2 st2 sr2 => ?_⟩
      have g3 := gx_step st2 g2
      unfold flX at g3
      split at g3
      · exact .inl ⟨rfl, gx_nx g3 sr2 (re1.step st2)⟩
      · obtain ⟨_, _, _, e5, q5⟩ := g3
        cases e5
        exact .inr (q5 ι2 H2 σ Step.refl sr2 (re1.step st2) (by simp))
      · exact (gx_bad g3).elim
    · cases h
  | .ite k a b, c, X, x, f, h => by
    unfold ckX at h
    split at h
    · simp only [Bool.and_eq_true] at h
      obtain ⟨⟨h1, h2⟩, h3⟩ := h
      refine PS.imp (ps_if (PT.nox (sn_T F k c X.nox _ f.fits.fits h1 (sn_E F k c X.nox _ f.fits.fits h1))) (sn_Xs F a c X _ f h2) (sn_Xs F b c X _ f h3)) fun D σ H q => ?_
      obtain ⟨ι, env, S, re, sr, g⟩ := q
      rw [exS] at g
      refine gx_B (f := fun env S => truR (evE F k env S)) re sr g fun ι1 H1 b S1 st1 re1 sr1 g1 => ?_
      cases b with
      | true => exact ⟨ι1, env, S1, re1, sr1, g1⟩
      | false => exact ⟨ι1, env, S1, re1, sr1, g1⟩
    · cases h
  | .fo t it b, c, X, x, f, h => by
    unfold ckX at h
    split at h
    · simp only [Bool.and_eq_true] at h
      obtain ⟨⟨h1, h2⟩, h3⟩ := h
      have g := f.fits.fits
      exact PS.imp (ps_for f.hp g.calm (PI.nox (sn_It F it c X.nox _ _ g h2)) (PG.nox (pg_T (X := X.nox) g.calm g.N g.nd g.sc t _ h1 fun i _ x _ => .inl (f.fits.fn x))) (sn_Xs F b c X _ f h3) (ckIt_fold h2 X.env)) fun D σ H q => fo_readX q
    · cases h
  | .asg t e, c, X, x, f, h => by
    unfold ckX at h
    exact PS.imp (PS.nox (sn_S F (.asg t e) c X.nox x f.fits h)) fun D σ H q => plain_X (fun _ _ _ _ _ e => asg_nx e) q
  | .aug i op e, c, X, x, f, h => by
    unfold ckX at h
    exact PS.imp (PS.nox (sn_S F (.aug i op e) c X.nox x f.fits h)) fun D σ H q => plain_X (fun _ _ _ _ _ e => aug_nx e) q
  | .par _ _, c, X, x, f, h => by unfold ckX at h; cases h
  | .setS _ _ _, c, X, x, f, h => by unfold ckX at h; cases h
  | .augS _ _ _ _, c, X, x, f, h => by unfold ckX at h; cases h
  | .expr _, c, X, x, f, h => by unfold ckX at h; cases h
  | .retN, c, X, x, f, h => by unfold ckX at h; cases h
  | .wh _ _, c, X, x, f, h => by unfold ckX at h; cases h
  | .brk, c, X, x, f, h => by unfold ckX at h; cases h
  | .cont, c, X, x, f, h => by unfold ckX at h; cases h
  | .pass, c, X, x, f, h => by unfold ckX at h; cases h
  | .retx _ _ _ _ _ _, c, X, x, f, h => by unfold ckX at h; cases h
  | .tryx _, c, X, x, f, h => by unfold ckX at h; cases h
theorem sn_Xs {nt : Nat} {C fI : Addr} {W : XK} (F : Fns) : ∀ (ss : Ss) (c : Cn) (X : Cx) (xs : List Stmt), FitsX c F nt X C fI W → ckXs c nt ss xs = true → PSs X xs (RdX X.K C W (exSs F ss))
  | .nil, c, X, [], f, h => by
    refine PSs.imp pss_nil fun D σ H q => ?_
    obtain ⟨ι, env, S, re, sr, g⟩ := q
    rw [exSs] at g
    exact gx_nx g sr re
  | .nil, c, X, _ :: _, f, h => by simp [ckXs] at h
  | .cons _ _, c, X, [], f, h => by simp [ckXs] at h
  | .cons s ss, c, X, x :: xs, f, h => by
    rw [ckXs, Bool.and_eq_true] at h
    refine PSs.imp (pss_cons (sn_X F s c X x f h.1) (sn_Xs F ss c X xs f h.2)) fun D σ H q => ?_
    obtain ⟨ι, env, S, re, sr, g⟩ := q
    rw [exSs] at g
    obtain ⟨⟨fl, env1⟩, S1, e1, g1⟩ := gx_bnd g
    refine ⟨ι, env, S, re, sr, fl, env1, S1, e1, fun ι1 H1 σ1 st sr1 re1 => ?_⟩
    have g2 := gx_step st g1
    cases fl with
    | next => exact ⟨ι1, env1, S1, re1, sr1, g2⟩
    | brk =>
      obtain ⟨_, _, _, e5, q5⟩ := g2
      cases e5
      exact q5 ι1 H1 σ1 Step.refl sr1 re1
    | cont =>
      obtain ⟨_, _, _, e5, q5⟩ := g2
      cases e5
      exact q5 ι1 H1 σ1 Step.refl sr1 re1
    | ret d =>
      obtain ⟨_, _, _, e5, q5⟩ := g2
      cases e5
      exact q5 ι1 H1 σ1 Step.refl sr1 re1
end
end
end SX
namespace SX
open PySem PySem.Spec PyProof.Rows L2
noncomputable section
open Classical
variable [Tabs]
/-! ### within try -/
def GotT (K : PySem.W.Frag) (C : Addr) (W : WX) (ι : List Addr) (H : Hp) (r : Res (Flow × Env)) (E : Ends) : Prop :=
  ∃ fl env' S', r = .ok (fl, env') S' ∧ ∀ ι' H' σ', Step ι H ι' H' → SR K ι' S' H' → REnv K ι' H' env' σ' → match fl with
    | .next => E.nx σ' H'
    | .brk => E.bk σ' H'
    | .cont => E.ct σ' H'
    | .ret d => (∀ x, d = .tup [x, .non] → ∀ v, Rep K ι' H' d v → E.rt v H') ∧ ∀ y i, d = .tup [.str y, .int i] → BpSz y i → ∀ dd, H' dd = none → W (.ref C) (some dd) σ' (upd H' dd (.xd (bpF y i)))
def RdT (K : PySem.W.Frag) (C : Addr) (W : WX) (f : Env → Store → Res (Flow × Env)) : TS := fun E σ H => ∃ ι env S, REnv K ι H env σ ∧ SR K ι S H ∧ GotT K C W ι H (f env S) E
section
variable {K : PySem.W.Frag} {C : Addr} {W : WX} {ι ι' : List Addr} {H H' : Hp} {α : Type} {Z : Ends} {env : Env} {σ : L2.St} {S : Store} {F : Fns}
theorem gt_step {r : Res (Flow × Env)} (st : Step ι H ι' H') (g : GotT K C W ι H r Z) : GotT K C W ι' H' r Z := by
  obtain ⟨fl, e, S', h1, h⟩ := g
  exact ⟨fl, e, S', h1, fun ι2 H2 σ2 s2 => h ι2 H2 σ2 (st.trans s2)⟩
theorem gt_bnd {r : Res α} {k : α → Store → Res (Flow × Env)} (g : GotT K C W ι H (r.bnd k) Z) : ∃ c S1, r = .ok c S1 ∧ GotT K C W ι H (k c S1) Z := by
  obtain ⟨fl, e, S', h1, h⟩ := g
  obtain ⟨c, S1, e1, e2⟩ := bnd_eq_ok h1
  exact ⟨c, S1, e1, fl, e, S', e2, h⟩
theorem gt_nx {env' : Env} (g : GotT K C W ι H (.ok (.next, env') S) Z) (s : SR K ι S H) (r : REnv K ι H env' σ) : Z.nx σ H := by
  obtain ⟨_, _, _, e, h⟩ := g
  cases e
  exact h ι H σ Step.refl s r
theorem gt_E {e : E} {k : D → Store → Res (Flow × Env)} (re : REnv K ι H env σ) (s : SR K ι S H) (g : GotT K C W ι H ((evE F e env S).bnd k) Z)
    {P : VK} (h : ∀ ι1 H1 d v S1, Step ι H ι1 H1 → REnv K ι1 H1 env σ → SR K ι1 S1 H1 → Rep K ι1 H1 d v → GotT K C W ι1 H1 (k d S1) Z → P v H1) : RdE K F e σ H P := by
  obtain ⟨d, S1, e1, g1⟩ := gt_bnd g
  exact ⟨ι, env, S, re, s, d, S1, e1, fun ι1 H1 v st s1 r => h ι1 H1 d v S1 st (re.step st) s1 r (gt_step st g1)⟩
theorem gt_Es {e : Es} {k : List D → Store → Res (Flow × Env)} (re : REnv K ι H env σ) (s : SR K ι S H) (g : GotT K C W ι H ((evEs F e env S).bnd k) Z)
    {P : List V → Hp → Prop} (h : ∀ ι1 H1 d v S1, evEs F e env S = .ok d S1 → Step ι H ι1 H1 → REnv K ι1 H1 env σ → SR K ι1 S1 H1 → Reps K ι1 H1 d v → GotT K C W ι1 H1 (k d S1) Z → P v H1) : RdEs K F e σ H P := by
  obtain ⟨d, S1, e1, g1⟩ := gt_bnd g
  exact ⟨ι, env, S, re, s, d, S1, e1, fun ι1 H1 v st s1 r => h ι1 H1 d v S1 e1 st (re.step st) s1 r (gt_step st g1)⟩
theorem gt_B {f : Env → Store → Res Bool} {k : Bool → Store → Res (Flow × Env)} (re : REnv K ι H env σ) (s : SR K ι S H) (g : GotT K C W ι H ((f env S).bnd k) Z)
    {P : Bool → Hp → Prop} (h : ∀ ι1 H1 b S1, Step ι H ι1 H1 → REnv K ι1 H1 env σ → SR K ι1 S1 H1 → GotT K C W ι1 H1 (k b S1) Z → P b H1) : RdB K f σ H P := by
  obtain ⟨d, S1, e1, g1⟩ := gt_bnd g
  exact ⟨ι, env, S, re, s, d, S1, e1, fun ι1 H1 b st s1 r => by subst r; exact h ι1 H1 d S1 st (re.step st) s1 (gt_step st g1)⟩
end
/-! ### a call by names alone, of a def that may raise -/
theorem pe_kw0X {X : Cx} {CX : CXT} {E : L2.St → XK} {x : Str} {p pos : Pos} {kws : List Keyword} {tk : TA} {k : Nat} {f : Addr} {fd : FuncData} {ps ks : List Str} {perm : List Nat} {sp : Sp}
    (F : FnOk X.prog X.w X.K X.mg X.base CX k f fd ps sp) (hr : Room k X.A) (hg : Gl X x) (hdb : (x == ("__debug__" : Str)) = false) (hm : X.mg x = some (.ref f)) (hk : PySem.W.keepIn X.K (.ref f) = true) (hb : KB fd ps 0 ks perm) (hx : ∀ σ, PassesAt CX X σ (E σ))
    (hkw : PK X kws tk) (hns : kwNames kws = some ks) :
    PE X (.Call (.Name x p) [] kws pos) (fun σ H Q => tk σ H fun zs H2 => zs.length = ks.length ∧ sp (permV perm zs) H2 Q (E σ)) := by
  refine ⟨fun pins s σ H Q I h => ?_⟩
  obtain ⟨n1, n2, n3⟩ := kw_names hns pos X.env
  refine wpAny_Call_Name_kw (ld_glob I hg hm ?_ hdb)
  refine PySem.W.callWith_KW0 (first := []) (h₀ := X.base) I.ok.mod.kin hk n1 ?_ (by rw [n3]; rfl)
  refine thn (hkw.run pos pins s σ H _ I h) fun ws s2 ⟨zs, H2, I2, rz, l2, q2⟩ => ⟨I2.kIn, ?_⟩
  rw [n2]
  have r2 := vals_perm rz perm fun i hi => by
    have := hb.lt i hi
    rw [l2]
    omega
  refine wpAny_call (codeAny_mono (F.run X.A X.stack s2 H2 ⟨[], ks.zip ws⟩ (permV perm ws) (permV perm zs) Q (E σ) hr I2.env0 (.of_eq (hb.to [] ws rfl (rz.length.symm.trans l2))) r2 q2) fun r s' hq => ?_)
  cases r with
  | error e => exact hx σ _ _ _ _ _ I2 hq
  | ok fl =>
    cases fl with
    | ret u => exact I2.after hq
    | next => exact False.elim hq
    | brk => exact False.elim hq
    | cont => exact False.elim hq
structure FitsT (c : Cn) (F : Fns) (nt : Nat) (X : Cx) (C : Addr) (W : WX) : Prop where
  fits : FitsS c F X.nox
  tk : Takes X W
  rm : ∃ k, Room k X.A ∧ ∀ g, c.nf ≤ g → g < nt → FnCX X C k (c.fn g) (F g) ((c.kw.filter fun q => q.1 == g).map (·.2))
mutual
def ckY (c : Cn) (nt : Nat) : St → Stmt → Bool
  | .retx z t g ks perm es, s => match s with
    | .Return (some (.Tuple [z', .IfExp t' (.Call (.Name x _) [] kws _) (.Call (.Name x2 _) (e :: fs) [] _) _] _ _)) _ => ckE c z z' && ckE c t t' && decide (c.nf ≤ g) && decide (g < nt) && decide (c.fn g = x) && decide (x2 = x) && glB c.sc x &&
        (match kwNames kws with
        | some ns => decide ((g, 0, ns, perm) ∈ c.kw)
        | none => false) && ckKs c ks kws && ckEs c es (e :: fs)
    | _ => false
  | .ite k a b, s => match s with
    | .If t x y _ => ckE c k t && ckYs c nt a x && ckYs c nt b y
    | _ => false
  | _, _ => false
def ckYs (c : Cn) (nt : Nat) : Ss → List Stmt → Bool
  | .nil, [] => true
  | .cons s ss, x :: xs => ckY c nt s x && ckYs c nt ss xs
  | _, _ => false
end
/-- behind the call: the value's pair, or the error -/
theorem rt_read {K : PySem.W.Frag} {C : Addr} {W : WX} {ι : List Addr} {H : Hp} {S : Store} {env : Env} {σ : L2.St} {x d : D} {v : V} {D' : Ends} (re : REnv K ι H env σ) (sr : SR K ι S H) (rv : Rep K ι H x v) (g : GotT K C W ι H (rtX x env d S) D') :
    (d = .non ∧ [v, V.non].length ≤ sizeLine ∧ ∀ p, H p = none → D'.rt (.ref p) (upd H p (.tup [v, .non]))) ∨ FlyX C (WE W σ) d H := by
  unfold rtX at g
  split at g
  · refine .inl ⟨rfl, by show 2 ≤ sizeLine; rw [sizeLine_eq]; decide, fun p hp => ?_⟩
    obtain ⟨_, _, _, e5, q5⟩ := g
    cases e5
    have st := step_laid (ι := ι) (o := .tup [v, .non]) hp
    refine (q5 ι _ σ st (sr.laid hp) (re.step st)).1 x rfl (.ref p) ?_
    unfold Rep
    exact ⟨p, [v, .non], rfl, SqT.of upd_same, .cons (Rep.step st x v rv) (.cons to_non .nil)⟩
  · split at g
    · rename_i ds h
      obtain ⟨y, i, rfl, sz⟩ := h
      obtain ⟨_, _, _, e5, q5⟩ := g
      cases e5
      exact .inr ⟨y, i, rfl, sz, fun dd hd => (q5 ι H σ Step.refl sr re).2 y i rfl sz dd hd⟩
    · obtain ⟨_, _, _, e5, _⟩ := g
      cases e5
  · obtain ⟨_, _, _, e5, _⟩ := g
    cases e5
mutual
theorem sn_Y {nt : Nat} {C : Addr} {W : WX} (F : Fns) : ∀ (s : St) (c : Cn) (X : Cx) (x : Stmt), FitsT c F nt X C W → ckY c nt s x = true → PS X x (RdT X.K C W (exS F s))
  | .retx z t g ks perm es, c, X, x, f, h => by
    unfold ckY at h
    split at h
    · rename_i z' t' nm p kws p2 nm2 p3 e0 fs p4 p5 k0 p6 p7
      simp only [Bool.and_eq_true, decide_eq_true_eq] at h
      obtain ⟨⟨⟨⟨⟨⟨⟨⟨⟨hz, ht⟩, h0⟩, h1⟩, rfl⟩, rfl⟩, h2⟩, h3⟩, h4⟩, h5⟩ := h
      have ff := f.fits.fits
      obtain ⟨gl, gd⟩ := gl_in ff h2
      obtain ⟨k, hr, hf⟩ := f.rm
      obtain ⟨fa, fd, ps, hm, hk, ok, bi, kb, hlen⟩ := (hf g h0 h1).ex
      split at h3
      · rename_i ns hns
        have hin : ((0 : Nat), ns, perm) ∈ ((c.kw.filter fun q => q.1 == g).map (·.2)) := List.mem_map.mpr ⟨_, List.mem_filter.mpr ⟨of_decide_eq_true h3, by simp⟩, rfl⟩
        have kb' := kb _ hin
        have pa : PA X (e0 :: fs) (RdEs X.K F es) := PA.nox (sn_Es F es c X.nox (e0 :: fs) ff h5)
        have hst : noStar e0 = true := by
          cases es with
          | nil => simp [ckEs] at h5
          | cons e1 es1 =>
            unfold ckEs at h5
            rw [Bool.and_eq_true] at h5
            exact ck_star h5.1
        have hpl := back_plain (pos := p4) (env := X.env) h5
        rw [star_each hst] at hpl
        have pp := pe_callS (p := p3) (E := WE W) ok hr gl hm hk bi (passAt f.tk) pa gd (star_each hst) (pos := p4) (by unfold backTo at hpl ⊢; rw [List.map_cons, List.any_cons, Bool.or_eq_false_iff] at hpl; exact hpl.2)
        have pkw : PK X kws (RdEs X.K F ks) := PK.nox (sn_Ks F ks c X.nox kws ff h4)
        have pq := pe_kw0X (p := p) (pos := p2) (E := WE W) ok hr gl gd hm hk kb' (passAt f.tk) pkw hns
        have lenk : ∀ {ι : List Addr} {H : Hp} {S S' : Store} {env : Env} {zs : List D} {ws : List V}, evEs F ks env S = .ok zs S' → Reps X.K ι H zs ws → ws.length = ns.length := fun {ι H S S' env zs ws} e r => by
          rw [← r.len, evEs_len e, ckKs_len h4, kw_len hns]
        refine PS.imp (ps_ret (pe_tup (pa_cons (PE.nox (sn_E F z c X.nox z' ff hz)) (pa_cons (pe_ifExp (PT.nox (sn_T F t c X.nox _ ff ht (sn_E F t c X.nox _ ff ht))) pq pp) pa_nil) (star_each (ck_star hz))))) fun D σ H q => ?_
        obtain ⟨ι, env, S, re, sr, gg⟩ := q
        rw [exS] at gg
        refine gt_E re sr gg fun ι1 H1 x v S1 st1 re1 sr1 r1 g1 => ?_
        refine gt_B (f := fun env S => truR (evE F t env S)) re1 sr1 g1 fun ι2 H2 b S2 st2 re2 sr2 g2 => ?_
        cases b with
        | true =>
          rw [if_pos rfl, bnd_assoc] at g2
          show RdEs X.K F ks σ H2 _
          refine gt_Es re2 sr2 g2 fun ι3 H3 ds vs S3 e3 st3 re3 sr3 r3 g3 => ?_
          have hw := lenk e3 r3
          refine ⟨hw, ?_⟩
          rw [bnd_ok] at g3
          obtain ⟨d, S4, e4, g4⟩ := gt_bnd g3
          have rp := reps_perm r3 perm fun i hi => by rw [hw]; have := kb'.lt i hi; simpa using this
          refine ⟨by rw [← rp.len]; exact hlen _ _ _ _ e4, ι3, S3, _, sr3, rp, d, S4, e4, fun ι4 H4 st4 sr4 => ?_⟩
          rcases rt_read (re3.step st4) sr4 (Rep.step ((st2.trans st3).trans st4) x v r1) (gt_step st4 g4) with ⟨hd, hl, hh⟩ | hf
          · exact .inl ⟨hd, hl, hh⟩
          · exact .inr hf
        | false =>
          rw [if_neg Bool.false_ne_true] at g2
          show RdEs X.K F es σ H2 _
          refine gt_Es re2 sr2 g2 fun ι3 H3 ds vs S3 e3 st3 re3 sr3 r3 g3 => ?_
          obtain ⟨d, S4, e4, g4⟩ := gt_bnd g3
          refine ⟨by rw [← r3.len]; exact hlen _ _ _ _ e4, ι3, S3, _, sr3, r3, d, S4, e4, fun ι4 H4 st4 sr4 => ?_⟩
          rcases rt_read (re3.step st4) sr4 (Rep.step ((st2.trans st3).trans st4) x v r1) (gt_step st4 g4) with ⟨hd, hl, hh⟩ | hf
          · exact .inl ⟨hd, hl, hh⟩
          · exact .inr hf
      · cases h3
    · cases h
  | .ite k a b, c, X, x, f, h => by
    unfold ckY at h
    split at h
    · simp only [Bool.and_eq_true] at h
      obtain ⟨⟨h1, h2⟩, h3⟩ := h
      refine PS.imp (ps_if (PT.nox (sn_T F k c X.nox _ f.fits.fits h1 (sn_E F k c X.nox _ f.fits.fits h1))) (sn_Ys F a c X _ f h2) (sn_Ys F b c X _ f h3)) fun D σ H q => ?_
      obtain ⟨ι, env, S, re, sr, g⟩ := q
      rw [exS] at g
      refine gt_B (f := fun env S => truR (evE F k env S)) re sr g fun ι1 H1 b S1 st1 re1 sr1 g1 => ?_
      cases b with
      | true => exact ⟨ι1, env, S1, re1, sr1, g1⟩
      | false => exact ⟨ι1, env, S1, re1, sr1, g1⟩
    · cases h
  | .fo _ _ _, c, X, x, f, h => by unfold ckY at h; cases h
  | .ret _, c, X, x, f, h => by unfold ckY at h; cases h
  | .callx _ _, c, X, x, f, h => by unfold ckY at h; cases h
  | .asg _ _, c, X, x, f, h => by unfold ckY at h; cases h
  | .aug _ _ _, c, X, x, f, h => by unfold ckY at h; cases h
  | .par _ _, c, X, x, f, h => by unfold ckY at h; cases h
  | .setS _ _ _, c, X, x, f, h => by unfold ckY at h; cases h
  | .augS _ _ _ _, c, X, x, f, h => by unfold ckY at h; cases h
  | .expr _, c, X, x, f, h => by unfold ckY at h; cases h
  | .retN, c, X, x, f, h => by unfold ckY at h; cases h
  | .wh _ _, c, X, x, f, h => by unfold ckY at h; cases h
  | .brk, c, X, x, f, h => by unfold ckY at h; cases h
  | .cont, c, X, x, f, h => by unfold ckY at h; cases h
  | .pass, c, X, x, f, h => by unfold ckY at h; cases h
  | .tryx _, c, X, x, f, h => by unfold ckY at h; cases h
theorem sn_Ys {nt : Nat} {C : Addr} {W : WX} (F : Fns) : ∀ (ss : Ss) (c : Cn) (X : Cx) (xs : List Stmt), FitsT c F nt X C W → ckYs c nt ss xs = true → PSs X xs (RdT X.K C W (exSs F ss))
  | .nil, c, X, [], f, h => by
    refine PSs.imp pss_nil fun D σ H q => ?_
    obtain ⟨ι, env, S, re, sr, g⟩ := q
    rw [exSs] at g
    exact gt_nx g sr re
  | .nil, c, X, _ :: _, f, h => by simp [ckYs] at h
  | .cons _ _, c, X, [], f, h => by simp [ckYs] at h
  | .cons s ss, c, X, x :: xs, f, h => by
    rw [ckYs, Bool.and_eq_true] at h
    refine PSs.imp (pss_cons (sn_Y F s c X x f h.1) (sn_Ys F ss c X xs f h.2)) fun D σ H q => ?_
    obtain ⟨ι, env, S, re, sr, g⟩ := q
    rw [exSs] at g
    obtain ⟨⟨fl, env1⟩, S1, e1, g1⟩ := gt_bnd g
    refine ⟨ι, env, S, re, sr, fl, env1, S1, e1, fun ι1 H1 σ1 st sr1 re1 => ?_⟩
    have g2 := gt_step st g1
    cases fl with
    | next => exact ⟨ι1, env1, S1, re1, sr1, g2⟩
    | brk =>
      obtain ⟨_, _, _, e5, q5⟩ := g2
      cases e5
      exact q5 ι1 H1 σ1 Step.refl sr1 re1
    | cont =>
      obtain ⟨_, _, _, e5, q5⟩ := g2
      cases e5
      exact q5 ι1 H1 σ1 Step.refl sr1 re1
    | ret d =>
      obtain ⟨_, _, _, e5, q5⟩ := g2
      cases e5
      exact q5 ι1 H1 σ1 Step.refl sr1 re1
end
end
end SX
namespace SX
open PySem PySem.Spec PyProof.Rows L2
noncomputable section
open Classical
variable [Tabs]
/-! ### try -/
theorem PS.impL {X : Cx} {e : Stmt} {t t' : TS} (h : PS X e t) (w : ∀ D σ H, σ.length = X.N.length → t' D σ H → t D σ H) : PS X e t' := ⟨fun pins s σ H D I q => h.run pins s σ H D I (w D σ H I.len q)⟩
mutual
theorem env_Y {F : Fns} {c : Cn} {nt : Nat} : ∀ (s : St) (x : Stmt), ckY c nt s x = true → ∀ {env env' : Env} {S S' : Store} {fl : Flow}, exS F s env S = .ok (fl, env') S' → env' = env
  | .retx z t g ks perm es, x, h, env, env', S, S', fl, e => by
    rw [exS] at e
    obtain ⟨a, S1, -, e⟩ := bnd_eq_ok e
    obtain ⟨b, S2, -, e⟩ := bnd_eq_ok e
    obtain ⟨ds, S3, -, e⟩ := bnd_eq_ok e
    obtain ⟨d, S4, -, e⟩ := bnd_eq_ok e
    unfold rtX at e
    split at e
    · cases e; rfl
    · split at e <;> cases e
      rfl
    · cases e
  | .ite k a b, x, h, env, env', S, S', fl, e => by
    unfold ckY at h
    split at h
    · simp only [Bool.and_eq_true] at h
      rw [exS] at e
      obtain ⟨q, S1, -, e⟩ := bnd_eq_ok e
      split at e
      · exact env_Ys a _ h.1.2 e
      · exact env_Ys b _ h.2 e
    · cases h
  | .fo _ _ _, x, h, _, _, _, _, _, _ => by unfold ckY at h; cases h
  | .ret _, x, h, _, _, _, _, _, _ => by unfold ckY at h; cases h
  | .callx _ _, x, h, _, _, _, _, _, _ => by unfold ckY at h; cases h
  | .asg _ _, x, h, _, _, _, _, _, _ => by unfold ckY at h; cases h
  | .aug _ _ _, x, h, _, _, _, _, _, _ => by unfold ckY at h; cases h
  | .par _ _, x, h, _, _, _, _, _, _ => by unfold ckY at h; cases h
  | .setS _ _ _, x, h, _, _, _, _, _, _ => by unfold ckY at h; cases h
  | .augS _ _ _ _, x, h, _, _, _, _, _, _ => by unfold ckY at h; cases h
  | .expr _, x, h, _, _, _, _, _, _ => by unfold ckY at h; cases h
  | .retN, x, h, _, _, _, _, _, _ => by unfold ckY at h; cases h
  | .wh _ _, x, h, _, _, _, _, _, _ => by unfold ckY at h; cases h
  | .brk, x, h, _, _, _, _, _, _ => by unfold ckY at h; cases h
  | .cont, x, h, _, _, _, _, _, _ => by unfold ckY at h; cases h
  | .pass, x, h, _, _, _, _, _, _ => by unfold ckY at h; cases h
  | .tryx _, x, h, _, _, _, _, _, _ => by unfold ckY at h; cases h
theorem env_Ys {F : Fns} {c : Cn} {nt : Nat} : ∀ (ss : Ss) (xs : List Stmt), ckYs c nt ss xs = true → ∀ {env env' : Env} {S S' : Store} {fl : Flow}, exSs F ss env S = .ok (fl, env') S' → env' = env
  | .nil, xs, h, env, env', S, S', fl, e => by
    rw [exSs] at e
    cases e
    rfl
  | .cons s ss, [], h, _, _, _, _, _, _ => by simp [ckYs] at h
  | .cons s ss, x :: xs, h, env, env', S, S', fl, e => by
    rw [ckYs, Bool.and_eq_true] at h
    rw [exSs] at e
    obtain ⟨⟨f1, env1⟩, S1, e1, e⟩ := bnd_eq_ok e
    have a := env_Y s x h.1 e1
    subst a
    cases f1 with
    | next => exact env_Ys ss xs h.2 e
    | brk => cases e; rfl
    | cont => cases e; rfl
    | ret d => cases e; rfl
end
/-- try: .. except BadPart as e: return (e.part, e.number); i: e's place -/
def ckTry (c : Cn) (nt i : Nat) : Ss → Stmt → Bool
  | b, .Try body [.ExceptHandler (some (.Name x _)) (some n) [.Return (some (.Tuple [.Attribute (.Name n1 _) y1 _, .Attribute (.Name n2 _) y2 _] _ _)) _] _] [] [] _ =>
    decide (x = "BadPart") && glB c.sc x && decide (c.N[i]? = some n) && decide (c.sc.names.lookup n = some .local) && decide (n1 = n) && decide (n2 = n) && decide (y1 = "part") && decide (y2 = "number") && !(n == ("__debug__" : Str)) && !(n == ("__classdict__" : Str)) && ckYs c nt b body
  | _, _ => false
theorem sn_try {c : Cn} {F : Fns} {X : Cx} {nt i : Nat} {C fI : Addr} {b : Ss} {x : Stmt} (f : FitsS c F X) (hs : X.stack = X.env :: X.outer) (hf : X.env.frame = some X.env.locals) (T : EX.BpTxt X.prog X.K X.mg C fI)
    (rm : ∃ k, Room k X.A ∧ ∀ g, c.nf ≤ g → g < nt → FnCX X C k (c.fn g) (F g) ((c.kw.filter fun q => q.1 == g).map (·.2))) (h : ckTry c nt i b x = true) : PS X x (RdS X.K (exS F (.tryx b))) := by
  unfold ckTry at h
  split at h
  case h_2 => cases h
  rename_i body nm p n n1 p1 y1 q1 n2 p2 y2 q2 k1 pt pr ph pos
  simp only [Bool.and_eq_true, decide_eq_true_eq, Bool.not_eq_true'] at h
  obtain ⟨⟨⟨⟨⟨⟨⟨⟨⟨⟨rfl, h2⟩, h3⟩, h4⟩, rfl⟩, rfl⟩, rfl⟩, rfl⟩, h5⟩, h6⟩, h7⟩ := h
  have ff := f.fits
  obtain ⟨gl, gd⟩ := gl_in ff h2
  have hN : X.N.Nodup := by rw [ff.N]; exact ff.nd
  have hi : X.N[i]? = some n2 := by rw [ff.N]; exact h3
  have hk : X.env.kindOf n2 = some .local := by
    show X.env.scope.names.lookup n2 = _
    rw [ff.sc]
    exact h4
  have hv : Vis X.env.scope n2 := .inl hk
  refine PS.impL (ps_try_as (c := .ref C) (Wout := fun _ _ _ _ => False) (tb := fun W => RdT X.K C W (exSs F b)) (ts := fun a cls d => tRet (tTup (tCons (tXf a cls d C "part" (tVar i)) (tCons (tXf a cls d C "number" (tVar i)) tNil)))) hs hf hN hi hk ⟨gl, gd, .inl T.gC⟩ takes0 (fun W pn xe tk _ => ?_) fun a oe cls d pn hz hd => ?_) fun D σ H hl q => ?_
  · exact sn_Ys F b c (X.tr pn xe) body ⟨⟨⟨ff.calm, ff.N, ff.nd, ff.sc, ff.un, rfl, ff.bl, ff.co, ff.gx, ff.rm.elim fun k z => ⟨k, z.1, z.2.1, fun g hg => ⟨(z.2.2 g hg).ex⟩⟩⟩, f.fn, f.kind⟩, tk, rm.elim fun k z => ⟨k, z.1, fun g h0 h1 => ⟨(z.2 g h0 h1).ex⟩⟩⟩ h7
  · exact pss_one (ps_ret (pe_tup (pa_cons (pe_xf T.xf T.noP hz hd (pe_var hi hv h5 h6)) (pa_cons (pe_xf T.xf T.noN hz hd (pe_var hi hv h5 h6)) pa_nil))))
  · obtain ⟨ι, env, S, re, sr, g⟩ := q
    rw [exS] at g
    obtain ⟨fl, env', S', e, k⟩ := g
    have ee := env_Ys b body h7 e
    subst ee
    refine ⟨ι, env', S, re, sr, fl, env', S', e, fun ι' H' σ' st sr' re' => ?_⟩
    have kk := fun H2 (st2 : Step ι' H' ι' H2) (sr2 : SR X.K ι' S' H2) => k ι' H2 σ' (st.trans st2) sr2 (re'.step st2)
    cases fl with
    | next => exact k ι' H' σ' st sr' re'
    | brk => exact k ι' H' σ' st sr' re'
    | cont => exact k ι' H' σ' st sr' re'
    | ret d =>
      refine ⟨fun x hx v rv => k ι' H' σ' st sr' re' v rv, fun y j hd sz dd hdd => ⟨true, T.te, fun _ a ha => ?_, fun z => Bool.noConfusion z⟩⟩
      subst hd
      have len : i < σ'.length := by
        rw [← re'.1, re.1, hl]
        exact (List.getElem?_eq_some_iff.mp hi).1
      have hget : (σ'.set i (some (V.ref a)))[i]? = some (some (V.ref a)) := by simp [len]
      have s1 := step_laid (ι := ι') (o := .xd (bpF y j)) hdd
      have r1 := sr'.laid (o := .xd (bpF y j)) hdd
      refine ⟨_, hget, rfl, rfl, dd, _, _, rfl, upd_same, (by unfold bpF; rw [lookup_put, if_neg (by decide), lookup_put, if_pos rfl]), ?_⟩
      refine ⟨_, hget, rfl, rfl, dd, _, _, rfl, upd_same, (by unfold bpF; rw [lookup_put, if_pos rfl]), ?_⟩
      refine ⟨by show 2 ≤ sizeLine; rw [sizeLine_eq]; decide, fun p hp => ?_⟩
      have s2 := step_laid (ι := ι') (o := .tup [.str y, .int j]) hp
      refine kk _ (s1.trans s2) (r1.laid hp) (.ref p) ?_
      unfold Rep
      exact ⟨p, _, rfl, SqT.of upd_same, .cons (to_str y) (.cons (to_int j) .nil)⟩
end
end SX
namespace SX
open PySem PySem.Spec PyProof.Rows L2
noncomputable section
open Classical
/-- m: the first def that may raise; t: a try's def, with the place of its error -/
def cnX (T : List Def) (m : Nat) (bl : List Str) (kw : Kws) (co : Cos) (d : Def) : Cn := ⟨d.N, defScope d.st, bl, m, fun f => (T[f]?.map (·.name)).getD "", kw, co, d.g⟩
def okDefX (T : List Def) (m : Nat) (bl : List Str) (kw : Kws) (co : Cos) (f : Nat) (d : Def) : Bool :=
  (if m ≤ f then ckXs (cnX T m bl kw co d) T.length d.fd.body (defBody d.st) && !d.fd.pure
   else match d.fd.body with
    | .cons (.tryx b) .nil => (match defBody d.st with
      | [x] => ckTry (cnX T m bl kw co d) T.length (d.N.length - 1) b x
      | _ => false)
    | body => ckSs (cnX T m bl kw co d) body (defBody d.st)) && decide (d.ps.length = d.fd.np) && decide (d.N.length = d.fd.ns) && decide (d.fd.np ≤ d.fd.ns)
structure DefX (T : List Def) (m : Nat) (bl : List Str) (kw : Kws) (co : Cos) (f : Nat) (d : Def) : Prop where
  sc : FnScope d.N d.ps (defScope d.st)
  ok : okDefX T m bl kw co f d = true
variable [Tabs]
/-- a def that may raise by its body, in the frame of its own code object -/
theorem fun_okXC {P : Program} {w : World} {K : PySem.W.Frag} {mg : Str → Option Value} {base : Heap} {x qual : Str} {st : Stmt} {f : Addr} {fd : FuncData} {N ps : List Str} {k : Nat} {sp : Sp} (F : Fun K x qual st f fd) (S : FnScope N ps (defScope st)) (len : ∀ vs H Q E, sp vs H Q E → vs.length = ps.length)
    (hb : ∀ (A : Around) (outer : List PySem.Env) (s : Shared) (H : Hp) (vs : List V) (Q : VK) (E : XK), Room k (A.deeper (envOfC qual (defScope st) s.heap.objs.size f fd.code)) → sp vs H Q E →
      ∃ t, PSs (cxOf (L2.CX P w) P w K mg base N qual (defScope st) f fd.code A outer s H E) (defBody st) t ∧ t { nx := fun _ H' => Q .non H', rt := Q } (L2.start N vs) H) : FnOk P w K mg base (L2.CX P w) (k + 1) f fd ps sp := by
  obtain ⟨z1, z2, z3, z4, z5, z6, z7, z8, z9, e0, e1, e2⟩ := F.ex
  subst e0
  exact fn_of e1 e2 S len fun A outer s H vs Q E r1 r2 => hb A outer s H vs Q E r1 r2
def OkN (P : Program) (w : World) (K : PySem.W.Frag) (mg : Str → Option Value) (base : Heap) (T : List Def) (m n : Nat) : Prop :=
  ∀ (f : Nat) (d : Def) (fa : Addr) (fdat : FuncData), T[f]? = some d → f < m → mg d.name = some (.ref fa) → Fun K d.name d.qual d.st fa fdat → FnOk P w K mg base CX0 (8 * n) fa fdat d.ps (GSp K d.ps.length (callN (prg T) n f))
def OkX (P : Program) (w : World) (K : PySem.W.Frag) (mg : Str → Option Value) (base : Heap) (T : List Def) (m n : Nat) (C : Addr) : Prop :=
  ∀ (f : Nat) (d : Def) (fa : Addr) (fdat : FuncData), T[f]? = some d → m ≤ f → mg d.name = some (.ref fa) → Fun K d.name d.qual d.st fa fdat → FnOk P w K mg base (L2.CX P w) (8 * n) fa fdat d.ps (GXp K C d.ps.length (callN (prg T) n f))
section
variable {P : Program} {w : World} {K : PySem.W.Frag} {mg : Str → Option Value} {base : Heap} {T : List Def} {m : Nat} {bl : List Str} {kw : Kws} {co : Cos} {C fI : Addr}
theorem lens_X {f : Nat} {d : Def} (h : DefX T m bl kw co f d) : d.ps.length = d.fd.np ∧ d.N.length = d.fd.ns ∧ d.fd.np ≤ d.fd.ns := by
  have ok := h.ok
  unfold okDefX at ok
  simp only [Bool.and_eq_true, decide_eq_true_eq] at ok
  exact ⟨ok.1.1.2, ok.1.2, ok.2⟩
theorem rm_N (hs : ∀ (f : Nat) (d : Def), T[f]? = some d → DefX T m bl kw co f d) (hk : ∀ (f : Nat) (d : Def), T[f]? = some d → DefK K mg kw f d) (hm : m ≤ T.length) {n : Nat} (A : OkN P w K mg base T m n) {X : Cx} (e1 : X.prog = P) (e2 : X.w = w) (e3 : X.K = K) (e4 : X.mg = mg) (e5 : X.base = base) (d : Def) (g : Nat) (hg : g < m) :
    FnC X (8 * n) ((cnX T m bl kw co d).fn g) (callN (prg T) n g) (((cnX T m bl kw co d).kw.filter fun q => q.1 == g).map (·.2)) := by
  subst e1 e2 e3 e4 e5
  have hg' : T[g]? = some T[g] := List.getElem?_eq_getElem (by omega)
  obtain ⟨ga, gd, G, gm, gb, gk, _⟩ := (hk g _ hg').ex
  have nm : (cnX T m bl kw co d).fn g = T[g].name := by
    show ((T[g]?.map Def.name).getD ("" : Str)) = _
    rw [hg']
    rfl
  refine ⟨ga, gd, T[g].ps, by rw [nm]; exact gm, G.kp, A g _ ga gd hg' hg gm G, gb, gk, fun ds S r S' h => ?_⟩
  rw [callN_len hg' h, ← (lens_X (hs g _ hg')).1]
theorem rm_X (hs : ∀ (f : Nat) (d : Def), T[f]? = some d → DefX T m bl kw co f d) (hk : ∀ (f : Nat) (d : Def), T[f]? = some d → DefK K mg kw f d) {n : Nat} (B : OkX P w K mg base T m n C) {X : Cx} (e1 : X.prog = P) (e2 : X.w = w) (e3 : X.K = K) (e4 : X.mg = mg) (e5 : X.base = base) (d : Def) (g : Nat) (h0 : m ≤ g) (h1 : g < T.length) :
    FnCX X C (8 * n) ((cnX T m bl kw co d).fn g) (callN (prg T) n g) (((cnX T m bl kw co d).kw.filter fun q => q.1 == g).map (·.2)) := by
  subst e1 e2 e3 e4 e5
  have hg' : T[g]? = some T[g] := List.getElem?_eq_getElem h1
  obtain ⟨ga, gd, G, gm, gb, gk, _⟩ := (hk g _ hg').ex
  have nm : (cnX T m bl kw co d).fn g = T[g].name := by
    show ((T[g]?.map Def.name).getD ("" : Str)) = _
    rw [hg']
    rfl
  refine ⟨ga, gd, T[g].ps, by rw [nm]; exact gm, G.kp, B g _ ga gd hg' h0 gm G, gb, gk, fun ds S r S' h => ?_⟩
  rw [callN_len hg' h, ← (lens_X (hs g _ hg')).1]
theorem fits_X (hs : ∀ (f : Nat) (d : Def), T[f]? = some d → DefX T m bl kw co f d) (hk : ∀ (f : Nat) (d : Def), T[f]? = some d → DefK K mg kw f d) (hb : ∀ x, bl.contains x = true → mg x = none) (hco : ∀ x k, (x, k) ∈ co → ConOk K mg x k) (hT : ∀ p ∈ Tabs.cs, GxR.TabB base mg p.1 p.2) (hm : m ≤ T.length)
    {n f : Nat} {d : Def} {fa : Addr} {fdat : FuncData} (A : OkN P w K mg base T m n) (hf : T[f]? = some d) (hfa : mg d.name = some (.ref fa)) (F : Fun K d.name d.qual d.st fa fdat) (CX : CXT) (Ar : Around) (outer : List PySem.Env) (s : Shared) (H : Hp) (E : XK)
    (hr : Room (8 * n + 7) (Ar.deeper (envOfC d.qual (defScope d.st) s.heap.objs.size fa fdat.code))) : FitsS (cnX T m bl kw co d) (callN (prg T) n) (cxOf CX P w K mg base d.N d.qual (defScope d.st) fa fdat.code Ar outer s H E).nox := by
  have S0 := hs f d hf
  refine ⟨⟨rfl, rfl, S0.sc.nd, rfl, by have := hr.un; show (Ar.deeper (envOfC d.qual (defScope d.st) s.heap.objs.size fa fdat.code)).units + 65 < cLine; omega, rfl, hb, hco, fun hg => ?_, 8 * n, hr.mono (by omega), fun _ => hr.mono (by omega), fun g hg => rm_N hs hk hm A rfl rfl rfl rfl rfl d g hg⟩, fun _ => rfl, S0.sc.kind⟩
  obtain ⟨fa', fdat', F', m', _, _, hc⟩ := (hk f d hf).ex
  obtain ⟨cA, Pt, h1, h2⟩ := hc hg
  have : fdat' = fdat := by
    have q := hfa.symm.trans m'
    cases q
    exact fun_det F' F
  rw [this] at h1
  exact ⟨cA, Pt, h1, hT _ h2, h2⟩
theorem run_eq {n f : Nat} {d : Def} (hf : T[f]? = some d) {ds : List D} {S : Store} (hds : ds.length = d.fd.np) (e3 : d.fd.np ≤ d.fd.ns) : callN (prg T) (n + 1) f ds S = endF d.fd S (exSs (callN (prg T) n) d.fd.body (ds.map some ++ List.replicate (d.fd.ns - d.fd.np) none) S) := by
  conv => lhs; unfold callN
  unfold prg
  rw [hf]
  dsimp only [Option.map_some]
  rw [if_pos ⟨hds, e3⟩]
/-- what a body that has run gives -/
theorem end_read {d : Def} {ι : List Addr} {H : Hp} {S : Store} {env1 env0 : Env} {σ0 : L2.St} {r : Res (Flow × Env)} {Q : VK} (sr : SR K ι S H) (g : Got K ι H (endF d.fd S r) (Rep K) Q) : GotS K ι H r { nx := fun _ H' => Q .non H', rt := Q } := by
  unfold endF at g
  obtain ⟨⟨fl, env1⟩, S1, ex, g1⟩ := got_bnd g
  refine ⟨fl, env1, S1, ex, fun ι' H' σ' st sr1 re1 => ?_⟩
  cases fl with
  | next =>
    dsimp only at g1
    split at g1
    · rcases got_ite g1 with ⟨ht, g1⟩ | ⟨_, g1⟩
      · exact got_ok g1 ι H' .non st.back (sr.back sr1 st ht) to_non
      · exact (got_bad g1).elim
    · exact got_ok g1 ι' H' .non st sr1 to_non
  | ret x =>
    intro v rv
    dsimp only at g1
    split at g1
    · rcases got_ite g1 with ⟨⟨ht, hc⟩, g1⟩ | ⟨_, g1⟩
      · obtain ⟨t, et⟩ := st.pre
        subst et
        exact got_ok g1 ι H' v st.back (sr.back sr1 st ht) (Rep.cut x v (by rw [sr.len]; exact hc) rv)
      · exact (got_bad g1).elim
    · exact got_ok g1 ι' H' v st sr1 rv
  | brk => exact (got_bad g1).elim
  | cont => exact (got_bad g1).elim
theorem callX_ok (hs : ∀ (f : Nat) (d : Def), T[f]? = some d → DefX T m bl kw co f d) (hk : ∀ (f : Nat) (d : Def), T[f]? = some d → DefK K mg kw f d) (hb : ∀ x, bl.contains x = true → mg x = none) (hco : ∀ x k, (x, k) ∈ co → ConOk K mg x k) (hT : ∀ p ∈ Tabs.cs, GxR.TabB base mg p.1 p.2) (hm : m ≤ T.length)
    (tx : EX.BpTxt P K mg C fI) : ∀ n : Nat, OkN P w K mg base T m n ∧ OkX P w K mg base T m n C
  | 0 => by
    refine ⟨fun f d fa fdat hf _ hfa F => ⟨fun vs H Q E h => h.1, fun A outer s H args us vs Q E _ _ _ _ h => ?_⟩, fun f d fa fdat hf _ hfa F => ⟨fun vs H Q E h => h.1, fun A outer s H args us vs Q E _ _ _ _ h => ?_⟩⟩
    · obtain ⟨_, ι, S, ds, _, _, g⟩ := h
      unfold callN at g
      exact (got_bad g).elim
    · obtain ⟨_, ι, S, ds, _, _, d, S', g, _⟩ := h
      unfold callN at g
      cases g
  | n + 1 => by
    obtain ⟨A, B⟩ := callX_ok hs hk hb hco hT hm tx n
    refine ⟨fun f d fa fdat hf hfm hfa F => ?_, fun f d fa fdat hf hfm hfa F => ?_⟩
    · have S0 := hs f d hf
      obtain ⟨e1, e2, e3⟩ := lens_X S0
      refine fun_okC F (k := 8 * n + 7) S0.sc (fun vs H Q E h => h.1) (fun Ar outer s H vs Q E hr h => ?_)
      have fits := fits_X hs hk hb hco hT hm A hf hfa F CX0 Ar outer s H E hr
      have ok := S0.ok
      unfold okDefX at ok
      simp only [Bool.and_eq_true, decide_eq_true_eq] at ok
      have ck := ok.1.1.1
      rw [if_neg (by omega)] at ck
      refine ⟨RdS K (exSs (callN (prg T) n) d.fd.body), ?_, ?_⟩
      · split at ck
        · rename_i b hbody
          split at ck
          · rename_i x hx
            rw [hbody, hx]
            have := pss_one (sn_try (X := (cxOf CX0 P w K mg base d.N d.qual (defScope d.st) fa fdat.code Ar outer s H E).nox) (F := callN (prg T) n) fits rfl rfl tx ⟨8 * n, hr.mono (by omega), fun g h0 h1 => rm_X hs hk B rfl rfl rfl rfl rfl d g h0 h1⟩ ck)
            refine PSs.imp this fun D σ H q => ?_
            obtain ⟨ι, env, S, re, sr, fl, env', S', e, k⟩ := q
            rw [exSs] at e
            obtain ⟨⟨fl1, env1⟩, S1, e1, e⟩ := bnd_eq_ok e
            refine ⟨ι, env, S, re, sr, fl1, env1, S1, e1, ?_⟩
            cases fl1 with
            | next =>
              rw [exSs] at e
              cases e
              exact k
            | brk => cases e; exact k
            | cont => cases e; exact k
            | ret d => cases e; exact k
          · cases ck
        · exact sn_Ss (callN (prg T) n) d.fd.body _ _ _ fits ck
      · obtain ⟨hl, ι, S, ds, sr, r, g⟩ := h
        have hds : ds.length = d.fd.np := by rw [r.len, hl, e1]
        rw [run_eq hf hds e3] at g
        exact ⟨ι, _, S, renv_start r hds e3 e2, sr, end_read (env1 := []) (env0 := []) (σ0 := []) sr g⟩
    · have S0 := hs f d hf
      obtain ⟨e1, e2, e3⟩ := lens_X S0
      refine fun_okXC F (k := 8 * n + 7) S0.sc (fun vs H Q E h => h.1) (fun Ar outer s H vs Q E hr h => ?_)
      have fits := fits_X hs hk hb hco hT hm A hf hfa F (L2.CX P w) Ar outer s H E hr
      have ok := S0.ok
      unfold okDefX at ok
      simp only [Bool.and_eq_true, decide_eq_true_eq] at ok
      have ck := ok.1.1.1
      rw [if_pos hfm, Bool.and_eq_true, Bool.not_eq_true'] at ck
      have ft : FitsX (cnX T m bl kw co d) (callN (prg T) n) T.length (cxOf (L2.CX P w) P w K mg base d.N d.qual (defScope d.st) fa fdat.code Ar outer s H E) C fI E :=
        ⟨fits, tx, takes_of rfl rfl rfl rfl, passes_of rfl, 8 * n, hr.mono (by omega), fun g h0 h1 => rm_X hs hk B rfl rfl rfl rfl rfl d g h0 h1⟩
      refine ⟨_, sn_Xs (callN (prg T) n) d.fd.body _ _ _ ft ck.1, ?_⟩
      obtain ⟨hl, ι, S, ds, sr, r, dd, S', ec, k⟩ := h
      have hds : ds.length = d.fd.np := by rw [r.len, hl, e1]
      rw [run_eq hf hds e3] at ec
      unfold endF at ec
      obtain ⟨⟨fl, env1⟩, S1, ex, ec⟩ := bnd_eq_ok ec
      refine ⟨ι, _, S, renv_start r hds e3 e2, sr, fl, env1, S1, ex, fun ι' H' σ' st sr1 re1 => ?_⟩
      cases fl with
      | next =>
        dsimp only at ec
        rw [ck.2, if_neg Bool.false_ne_true] at ec
        cases ec
        rcases k ι' H' st sr1 with ⟨_, q⟩ | ⟨y, i, z, _⟩
        · exact q
        · cases z
      | ret x =>
        dsimp only at ec
        rw [ck.2, if_neg Bool.false_ne_true] at ec
        cases ec
        intro hx
        rcases k ι' H' st sr1 with ⟨z, q⟩ | q
        · exact absurd z hx
        · exact q
      | brk => cases ec
      | cont => cases ec
end
/-! ### all defs, constants, the end -/
def XAll (T : List Def) (m : Nat) (bl : List Str) (kw : Kws) (co : Cos) : Nat → List Def → Prop
  | _, [] => True
  | i, d :: ds => DefX T m bl kw co i d ∧ XAll T m bl kw co (i + 1) ds
omit [Tabs] in
theorem xall_at {T0 : List Def} {m : Nat} {bl : List Str} {kw : Kws} {co : Cos} : ∀ {T : List Def} {i : Nat}, XAll T0 m bl kw co i T → ∀ (f : Nat) (d : Def), T[f]? = some d → DefX T0 m bl kw co (i + f) d
  | [], _, _, _, _, h => by simp at h
  | d :: ds, i, k, 0, e, h => by
    have h' : d = e := Option.some.inj h
    rw [← h']
    exact k.1
  | d :: ds, i, k, f + 1, e, h => by
    have := xall_at (T := ds) k.2 f e h
    rw [show i + (f + 1) = i + 1 + f by omega]
    exact this
omit [Tabs] in
theorem xall_get {T : List Def} {m : Nat} {bl : List Str} {kw : Kws} {co : Cos} (h : XAll T m bl kw co 0 T) : ∀ (f : Nat) (d : Def), T[f]? = some d → DefX T m bl kw co f d := fun f d e => by
  have := xall_at h f d e
  rw [Nat.zero_add] at this
  exact this
omit [Tabs] in
theorem exm_own {K : PySem.W.Frag} {S : Addr} (h1 : PySem.W.subIn K (.ref S) (.type "BaseException") = some true) (h2 : PySem.W.isClsIn K S = true) (h3 : PySem.W.typeIn K (.ref S) = some (.type "type")) (h4 : PySem.W.subIn K (.ref S) (.ref S) = some true) : PySem.W.exmOne K (.ref S) (.ref S) = some true := by
  have h2' : (PySem.W.clsIn K S).isSome = true := h2
  simp [PySem.W.exmOne, PySem.W.kitCls, h1, h2', h3, h4]
theorem con_strs {K : PySem.W.Frag} {mg : Str → Option Value} {x : Str} {xs : List Str} {a : Addr} {od : Option Addr} {its : Array Value} {n : Nat} {sl : Array (Option Value)} (h : mg x = some (.ref a)) (lk : K.lookup a = some ⟨.type "tuple", od, .seq its n, sl⟩) (hs : its.size ≤ 1000) (hv : Vals (xs.map V.str) its.toList) : ConOk K mg x (.strs xs) := by
  refine ⟨.ref a, .ref a, h, rfl, fun ι H => ?_⟩
  show Rep K ι H (.tup (xs.map .str)) (.ref a)
  unfold Rep
  refine ⟨a, xs.map V.str, rfl, .inr ⟨_, its, n, lk, rfl, rfl, by rw [sizeLine_eq]; omega, hv⟩, ?_⟩
  clear hv
  induction xs with
  | nil => exact .nil
  | cons y ys ih => exact .cons (to_str y) ih
theorem law_atX {l : PySem.W.OpenLaw} {w : World} {K : PySem.W.Frag} {mg : Str → Option Value} {fa : Addr} {h : Heap} {T : List Def} {m : Nat} {bl : List Str} {kw : Kws} {co : Cos} {LV i : Nat} {d : Def} {fdat : FuncData} {C fI : Addr}
    (hs : ∀ (f : Nat) (d : Def), T[f]? = some d → DefX T m bl kw co f d) (hk : ∀ (f : Nat) (d : Def), T[f]? = some d → DefK K mg kw f d) (hb : ∀ x, bl.contains x = true → mg x = none) (hco : ∀ x k, (x, k) ∈ co → ConOk K mg x k) (hmt : m ≤ T.length) (tx : EX.BpTxt l.prog K mg C fI) (hlt : i < m)
    (hi : T[i]? = some d) (hps : d.ps = [("script" : Str)]) (hm : mg d.name = some (.ref fa)) (F : Fun K d.name d.qual d.st fa fdat) (hbd : ∀ (s : Shared) (u : Value), BindsTo s fdat ⟨[u], []⟩ [(("script" : Str), u)])
    (hT : ∀ p ∈ Tabs.cs, (h.get? p.2 = some { cls := .none, data := .fields #[] } ∧ PySem.W.CodeHd h p.1 p.2) ∧ K.lookup p.2 = none)
    (main : ∀ ns : List Int, ns.length ≤ 63 → (∃ S', callN (prg T) LV i [.rls (ns.map .int)] [] = .ok (.bl true) S') ∧ ∃ S', callN (prg T) LV i [.loc 0] [.lst (ns.map .int)] = .ok (.bl true) S') :
    LamX.LawAtS l w K CX0 (8 * LV) 63 "script" mg fa h := by
  refine ⟨fdat, Tabs.cs, GSp K 1 (callN (prg T) LV i), fun p hp => (hT p hp).1.1, fun p hp => (hT p hp).2, fun p hp => (hT p hp).1.2, hbd, fun H a ns h1 _ h2 h3 => law_sp h2 h3 (main ns h1).1 (main ns h1).2, fun base _ _ tb => ?_⟩
  have := (callX_ok (P := l.prog) (w := w) hs hk hb hco (fun p hp => ⟨(tb p hp).code, (tb p hp).bm, (tb p hp).gP⟩) hmt tx LV).1 i d fa fdat hi hlt hm F
  rw [hps] at this
  exact this
end
end SX
/-! loops of any and all; comprehensions with effects; plain data -/
namespace SX
open PySem PySem.Spec PyProof.Rows L2
noncomputable section
open Classical
section
variable (S : Store)
theorem ab_c (i : Int) : isAbs (.cint i) = false := rfl
theorem ab_v (i : Nat) : isAbs (.var i) = false := rfl
theorem ab_b (op : BO) (a b : E) : isAbs (.bin op a b) = false := rfl
theorem ab_a : isAbs .absent = true := rfl
theorem optI_int (i : Int) : optI (.ok (.int i) S) = .ok (some i) S := rfl
theorem if_ft {α : Type} (a b : α) : (if false = true then a else b) = b := rfl
theorem if_tt {α : Type} (a b : α) : (if true = true then a else b) = a := rfl
theorem s_tup (ds : List D) (l h : Option Int) : slcD (.tup ds) l h S = .ok (.tup (cutD ds l h)) S := rfl
end
theorem ql_is (F : Fns) (env : Env) (all : Bool) (t : Tg) (own : List Nat) (elt : E) (w : Walk) (S : Store) (hw : w.here S) (p : D → Bool) : ∀ items : List D,
    (∀ d ∈ items, ∃ env1, asgT t d S (wipeE env own) = some env1 ∧ evE F elt env1 S = .ok (.bl (p d)) S) →
    qlS F env all t own .nil elt w items S = .ok (.bl (if all = true then items.all p else items.any p)) S
  | [], _ => by
    unfold qlS qlL
    rw [if_pos hw]
    cases all <;> rfl
  | d :: ds, h => by
    obtain ⟨env1, e1, e2⟩ := h d (List.mem_cons_self ..)
    have ih := ql_is F env all t own elt w S hw p ds fun x hx => h x (List.mem_cons_of_mem _ hx)
    unfold qlS at ih ⊢
    unfold qlL
    rw [if_pos hw, e1]
    dsimp only
    rw [vT_nil, bnd_ok, if_pos rfl, e2, bnd_ok]
    dsimp only
    rw [ih, List.all_cons, List.any_cons]
    cases all <;> cases p d <;> rfl
/-- a list comprehension whose turns may change the store -/
theorem lc_effD (F : Fns) (env : Env) (t : Tg) (own : List Nat) (elt : E) (w : Walk) (Inv : Store → Prop) (R : D → Prop) (hw : ∀ s, Inv s → w.here s) : ∀ (items acc : List D) (S : Store), Inv S → acc.length + items.length < LINE →
    (∀ d ∈ items, ∀ S, Inv S → ∃ env1 x S', asgT t d S (wipeE env own) = some env1 ∧ evE F elt env1 S = .ok x S' ∧ R x ∧ Inv S') →
    ∃ (xs : List D) (S' : Store), lcS F env t own .nil elt w items acc S = .ok (acc ++ xs) S' ∧ xs.length = items.length ∧ (∀ x ∈ xs, R x) ∧ Inv S'
  | [], acc, S, hI, _, _ => ⟨[], S, by rw [lc_nil _ _ _ _ _ _ _ _ _ (hw S hI), List.append_nil], rfl, (by simp), hI⟩
  | d :: ds, acc, S, hI, hl, h => by
    obtain ⟨env1, x, S1, e1, e2, r1, i1⟩ := h d (List.mem_cons_self ..) S hI
    rw [List.length_cons] at hl
    obtain ⟨xs, S2, a, b, c, e⟩ := lc_effD F env t own elt w Inv R hw ds (acc ++ [x]) S1 i1 (by rw [List.length_append]; simp only [List.length_cons, List.length_nil]; omega) (fun z hz => h z (List.mem_cons_of_mem _ hz))
    refine ⟨x :: xs, S2, ?_, by rw [List.length_cons, List.length_cons, b], ?_, e⟩
    · rw [lc_cons _ _ _ _ _ _ _ _ _ _ _ (hw S hI), e1]
      unfold lcT
      dsimp only
      rw [vT_nil, bnd_ok]
      unfold lcB
      rw [if_pos rfl, e2, bnd_ok, if_pos (by omega), a, List.append_assoc]
      rfl
    · intro z hz
      rcases List.mem_cons.mp hz with rfl | hz
      · exact r1
      · exact c z hz
/-- plain data no deeper than k -/
def Dk : Nat → D → Prop
  | 0, d => d = .non ∨ (∃ b, d = .bl b) ∨ (∃ i, d = .int i) ∨ (∃ x, d = .str x ∧ PyData.strOk x = true)
  | k + 1, d => Dk k d ∨ ∃ ds, d = .tup ds ∧ ∀ x ∈ ds, Dk k x
theorem Dk.up {k : Nat} {d : D} (h : Dk k d) : Dk (k + 1) d := .inl h
theorem dk_int (k : Nat) (i : Int) : Dk k (.int i) := by induction k with | zero => exact .inr (.inr (.inl ⟨i, rfl⟩)) | succ k ih => exact .inl ih
theorem dk_bl (k : Nat) (i : Bool) : Dk k (.bl i) := by induction k with | zero => exact .inr (.inl ⟨i, rfl⟩) | succ k ih => exact .inl ih
theorem dk_non (k : Nat) : Dk k .non := by induction k with | zero => exact .inl rfl | succ k ih => exact .inl ih
theorem dk_str (k : Nat) {x : Str} (h : PyData.strOk x = true) : Dk k (.str x) := by induction k with | zero => exact .inr (.inr (.inr ⟨x, rfl, h⟩)) | succ k ih => exact .inl ih
theorem dk_tup {k : Nat} {ds : List D} (h : ∀ x ∈ ds, Dk k x) : Dk (k + 1) (.tup ds) := .inr ⟨ds, rfl, h⟩
theorem dk_of {k : Nat} {ds : List D} (h : Dk (k + 1) (.tup ds)) : ∀ x ∈ ds, Dk k x := by
  induction k generalizing ds with
  | zero =>
    rcases h with h | ⟨es, e, h⟩
    · rcases h with h | ⟨b, h⟩ | ⟨i, h⟩ | ⟨x, h, _⟩ <;> cases h
    · cases e; exact h
  | succ k ih =>
    rcases h with h | ⟨es, e, h⟩
    · exact fun x hx => (ih h x hx).up
    · cases e; exact h
theorem dk_py : ∀ (k : Nat) (d : D), Dk k d → ∃ x, pyD d = some x ∧ PyData.canLay0 x = true ∧ PyData.depth x ≤ k + 1
  | 0, d, h => by
    rcases h with rfl | ⟨b, rfl⟩ | ⟨i, rfl⟩ | ⟨x, rfl, hx⟩
    · exact ⟨.none, rfl, rfl, by simp [PyData.depth]⟩
    · exact ⟨.bool b, rfl, rfl, by simp [PyData.depth]⟩
    · exact ⟨.int i, rfl, rfl, by simp [PyData.depth]⟩
    · exact ⟨.str x, rfl, by simpa [PyData.canLay0] using hx, by simp [PyData.depth]⟩
  | k + 1, d, h => by
    rcases h with h | ⟨ds, rfl, h⟩
    · obtain ⟨x, a, b, c⟩ := dk_py k d h
      exact ⟨x, a, b, by omega⟩
    · have : ∀ ds : List D, (∀ x ∈ ds, Dk k x) → ∃ xs, pyDs ds = some xs ∧ PyData.canLayAll0 xs = true ∧ PyData.depthAll xs ≤ k + 1 := by
        intro ds
        induction ds with
        | nil => intro _; exact ⟨[], rfl, rfl, by simp [PyData.depthAll]⟩
        | cons d ds ih =>
          intro h
          obtain ⟨x, a, b, c⟩ := dk_py k d (h d List.mem_cons_self)
          obtain ⟨xs, a2, b2, c2⟩ := ih fun y hy => h y (List.mem_cons_of_mem _ hy)
          refine ⟨x :: xs, by rw [pyDs, a, a2], by simp [PyData.canLayAll0, b, b2], ?_⟩
          simp only [PyData.depthAll]
          omega
      obtain ⟨xs, a, b, c⟩ := this ds h
      refine ⟨.tuple xs, by rw [pyD, a]; rfl, by simpa [PyData.canLay0] using b, ?_⟩
      simp only [PyData.depth]
      omega
theorem eq_nil {k : Nat} {ds : List D} (hk : k ≤ 50) (h : Dk k (.tup ds)) (S : Store) : eqD (.tup ds) (.tup []) S = some ds.isEmpty := by
  obtain ⟨x, a, b, c⟩ := dk_py k _ h
  rw [pyD] at a
  obtain ⟨xs, a1, rfl⟩ := Option.map_eq_some_iff.mp a
  unfold eqD
  rw [show scalD (.tup ds) (.tup []) = none from rfl]
  dsimp only
  rw [show pyT (.tup ds) S = some (.tuple xs) from by show pyD (.tup ds) = _; rw [pyD, a1]; rfl, show pyT (.tup []) S = some (.tuple []) from rfl]
  dsimp only
  have s1 : SeqAt.shaped (.tuple xs) = true := by
    unfold SeqAt.shaped
    rw [b, decide_eq_true (show PyData.depth (.tuple xs) ≤ 64 by omega)]
    rfl
  have s2 : SeqAt.shaped (.tuple []) = true := by decide +kernel
  rw [if_pos ⟨s1, s2⟩, ← pyDs_nil a1]
  cases xs with
  | nil => simp [PyData.eqv, PyData.eqvAll]
  | cons x xs => simp [PyData.eqv, PyData.eqvAll]
end
end SX
/-! what a drawing function does to the store: the bag's own two lists change, new lists come behind -/
namespace SX
open PySem PySem.Spec PyProof.Rows L2
noncomputable section
open Classical
local macro_rules | `(tactic| walk_at "ev") => `(tactic| simp (config := { maxSteps := 3000000 }) (disch := first | assumption | omega | exact ⟨by omega, by omega⟩ | exact ⟨⟨by omega, by omega⟩, ⟨by omega, by omega⟩⟩ | exact Nat.le_of_ble_eq_true rfl | decide) only [bnd_ok, bnd_bad, binJ_eq, binK_eq, notK_eq, cmpJ_eq, cmpK_eq, idxJ_eq, idxK_eq, calJ_eq, clkJ_eq, clkK_eq, priJ_eq, isiJ_eq, metJ_eq, metI_t, metK_eq, lcJ_eq, lcK_eq, conJ_eq, conK_eq, andJ_eq, orJ_eq, rg2J_eq, nxtK_eq, setI1_eq, setI2_eq, setI3_eq, retK_eq,  vE_var, varK_ok, vE_int, vE_bl, vE_non, vE_str, vE_tup, vE_lst, vE_bin, vE_neg, vE_not, vE_and, vE_or, vE_cmp, vE_ite, brE_t, brE_f, vE_idx, vE_slc, ab_c, ab_v, ab_b, ab_a, optI_int, if_ft, if_tt, s_tup, vE_call, vE_callk, vE_prim, vE_isin, vE_meth, vE_lc, vE_gcon, toD_int, toD_strs, vE_chain, chnI_eq, chnK_eq, chnJ_t, chnJ_f, vE_tupG, tgJ_eq, tgK_eq, vE_qual, qlK_eq, vE_sumG, smK_eq, vE_lc2, l2K_eq, vEs_nil, vEs_cons, vA_one, vA_cons, vO_one, vO_cons, andK_t, andK_f, orK_t, orK_f, vT_nil, vT_cons, vI_seq, seqK_tup, seqK_rls, seqK_loc, seqL_ok, vI_enum, enK_eq, vI_zip, zpJ_eq, zpK_eq, vI_range1, rg1_int, vI_range2, rg2_int,
  xS_asg, asgK_nm, asgT_nm, asgT_tp2, asgT_tp3, asgK_tp2, asgK_tp3, xS_par, parK_2, parK_3, xS_setS, xS_aug, augV_ok, augK_add, augK_sub, xS_augS, agR_some, agD_eq, agX_eq, agI_eq, agO_eq, idxM_loc, augD_add, augD_sub, xS_expr, xS_ret, xS_retN, xS_ite, brS_t, brS_f, xS_wh, whB_t, whB_f, whK_n, whK_c, whK_b, whK_r, xS_fo, foT_some, foK_n, foK_c, foK_b, foK_r, xS_brk, xS_cont, xS_pass, xS_callx, flX_non, flX_tup, xS_tryx, xS_retx, rtX_non, rtX_tup, xSs_nil, xSs_cons, sqK_n, sqK_r, sqK_b, sqK_c,
  b_add, b_sub, b_mul, b_mulL, b_mulR, b_fdiv, b_mod, b_pow, b_addT, b_addL, addL_ok, b_repT, k_lt, k_le, k_gt, k_ge, k_eq, k_ne, k_isN, k_notN, k_in, k_nin, tr_str, q_int, q_bl, q_str, ofB_some, Option.map_some, tr_bl, tr_int, tr_non, tr_tup, tr_loc, trK_ok, td_bl, td_int, td_tup, i_tup, i_rls, i_loc, idxL_ok, okV_some, at0, at1, at2, at3, at_m1, tupK_ok, lstK_ok, negK_int, p_abs, p_int, p_intB, p_lenT, p_lenR, p_lenL, lenL_ok, p_sorted, p_sum, intsL_ok, allInt_map, srtI_ok, smI_ok, p_max, p_min, p_tupT, p_tupL, tupL_ok, p_lstT, p_lstL, lstL_ok, isD_ok, m_app, appL_ok, m_pop, popL_ok, m_rev, revL_ok, recv_ok, recvL_ok, set_loc, setL_ok, setI_ok, new_eq, Bool.not_true, Bool.not_false, if_true, eq_self, decide_true, decide_false,
  List.set_cons_zero, List.set_cons_succ, List.getElem?_cons_zero, List.getElem?_cons_succ, List.length_cons, List.length_nil, Option.some.injEq])
local macro_rules | `(tactic| walk_at "ev*") => `(tactic| simp (config := { maxSteps := 3000000 }) (disch := first | assumption | omega | exact ⟨by omega, by omega⟩ | exact ⟨⟨by omega, by omega⟩, ⟨by omega, by omega⟩⟩ | exact Nat.le_of_ble_eq_true rfl | decide) only [bnd_ok, bnd_bad, binJ_eq, binK_eq, notK_eq, cmpJ_eq, cmpK_eq, idxJ_eq, idxK_eq, calJ_eq, clkJ_eq, clkK_eq, priJ_eq, isiJ_eq, metJ_eq, metI_t, metK_eq, lcJ_eq, lcK_eq, conJ_eq, conK_eq, andJ_eq, orJ_eq, rg2J_eq, nxtK_eq, setI1_eq, setI2_eq, setI3_eq, retK_eq,  vE_var, varK_ok, vE_int, vE_bl, vE_non, vE_str, vE_tup, vE_lst, vE_bin, vE_neg, vE_not, vE_and, vE_or, vE_cmp, vE_ite, brE_t, brE_f, vE_idx, vE_slc, ab_c, ab_v, ab_b, ab_a, optI_int, if_ft, if_tt, s_tup, vE_call, vE_callk, vE_prim, vE_isin, vE_meth, vE_lc, vE_gcon, toD_int, toD_strs, vE_chain, chnI_eq, chnK_eq, chnJ_t, chnJ_f, vE_tupG, tgJ_eq, tgK_eq, vE_qual, qlK_eq, vE_sumG, smK_eq, vE_lc2, l2K_eq, vEs_nil, vEs_cons, vA_one, vA_cons, vO_one, vO_cons, andK_t, andK_f, orK_t, orK_f, vT_nil, vT_cons, vI_seq, seqK_tup, seqK_rls, seqK_loc, seqL_ok, vI_enum, enK_eq, vI_zip, zpJ_eq, zpK_eq, vI_range1, rg1_int, vI_range2, rg2_int,
  xS_asg, asgK_nm, asgT_nm, asgT_tp2, asgT_tp3, asgK_tp2, asgK_tp3, xS_par, parK_2, parK_3, xS_setS, xS_aug, augV_ok, augK_add, augK_sub, xS_augS, agR_some, agD_eq, agX_eq, agI_eq, agO_eq, idxM_loc, augD_add, augD_sub, xS_expr, xS_ret, xS_retN, xS_ite, brS_t, brS_f, xS_wh, whB_t, whB_f, whK_n, whK_c, whK_b, whK_r, xS_fo, foT_some, foK_n, foK_c, foK_b, foK_r, xS_brk, xS_cont, xS_pass, xS_callx, flX_non, flX_tup, xS_tryx, xS_retx, rtX_non, rtX_tup, xSs_nil, xSs_cons, sqK_n, sqK_r, sqK_b, sqK_c,
  b_add, b_sub, b_mul, b_mulL, b_mulR, b_fdiv, b_mod, b_pow, b_addT, b_addL, addL_ok, b_repT, k_lt, k_le, k_gt, k_ge, k_eq, k_ne, k_isN, k_notN, k_in, k_nin, tr_str, q_int, q_bl, q_str, ofB_some, Option.map_some, tr_bl, tr_int, tr_non, tr_tup, tr_loc, trK_ok, td_bl, td_int, td_tup, i_tup, i_rls, i_loc, idxL_ok, okV_some, at0, at1, at2, at3, at_m1, tupK_ok, lstK_ok, negK_int, p_abs, p_int, p_intB, p_lenT, p_lenR, p_lenL, lenL_ok, p_sorted, p_sum, intsL_ok, allInt_map, srtI_ok, smI_ok, p_max, p_min, p_tupT, p_tupL, tupL_ok, p_lstT, p_lstL, lstL_ok, isD_ok, m_app, appL_ok, m_pop, popL_ok, m_rev, revL_ok, recv_ok, recvL_ok, set_loc, setL_ok, setI_ok, new_eq, Bool.not_true, Bool.not_false, if_true, eq_self, decide_true, decide_false,
  List.set_cons_zero, List.set_cons_succ, List.getElem?_cons_zero, List.getElem?_cons_succ, List.length_cons, List.length_nil, Option.some.injEq, *])
local macro_rules | `(tactic| walk_at "evs") => `(tactic| simp (config := { maxSteps := 3000000 }) (disch := first | assumption | omega | exact ⟨by omega, by omega⟩ | exact ⟨⟨by omega, by omega⟩, ⟨by omega, by omega⟩⟩ | exact Nat.le_of_ble_eq_true rfl | decide) only [bnd_ok, bnd_bad, binJ_eq, binK_eq, notK_eq, cmpJ_eq, cmpK_eq, idxJ_eq, idxK_eq, calJ_eq, clkJ_eq, clkK_eq, priJ_eq, isiJ_eq, metJ_eq, metI_t, metK_eq, lcJ_eq, lcK_eq, conJ_eq, conK_eq, andJ_eq, orJ_eq, rg2J_eq, nxtK_eq, setI1_eq, setI2_eq, setI3_eq, retK_eq,  vE_var, varK_ok, vE_int, vE_bl, vE_non, vE_str, vE_tup, vE_lst, vE_bin, vE_neg, vE_not, vE_and, vE_or, vE_cmp, vE_ite, brE_t, brE_f, vE_idx, vE_slc, ab_c, ab_v, ab_b, ab_a, optI_int, if_ft, if_tt, s_tup, vE_call, vE_callk, vE_prim, vE_isin, vE_meth, vE_lc, vE_gcon, toD_int, toD_strs, vE_chain, chnI_eq, chnK_eq, chnJ_t, chnJ_f, vE_tupG, tgJ_eq, tgK_eq, vE_qual, qlK_eq, vE_sumG, smK_eq, vE_lc2, l2K_eq, vEs_nil, vEs_cons, vA_one, vA_cons, vO_one, vO_cons, andK_t, andK_f, orK_t, orK_f, vT_nil, vT_cons, vI_seq, seqK_tup, seqK_rls, seqK_loc, seqL_ok, vI_enum, enK_eq, vI_zip, zpJ_eq, zpK_eq, vI_range1, rg1_int, vI_range2, rg2_int,
  xS_asg, asgK_nm, asgT_nm, asgT_tp2, asgT_tp3, asgK_tp2, asgK_tp3, xS_par, parK_2, parK_3, xS_setS, xS_aug, augV_ok, augK_add, augK_sub, xS_augS, agR_some, agD_eq, agX_eq, agI_eq, agO_eq, idxM_loc, augD_add, augD_sub, xS_expr, xS_ret, xS_retN, xS_ite, brS_t, brS_f, xS_wh, whB_t, whB_f, whK_n, whK_c, whK_b, whK_r, xS_fo, foT_some, foK_n, foK_c, foK_b, foK_r, xS_brk, xS_cont, xS_pass, xS_callx, flX_non, flX_tup, xS_tryx, xS_retx, rtX_non, rtX_tup, xSs_nil, xSs_cons, sqK_n, sqK_r, sqK_b, sqK_c,
  b_add, b_sub, b_mul, b_mulL, b_mulR, b_fdiv, b_mod, b_pow, b_addT, b_addL, addL_ok, b_repT, k_lt, k_le, k_gt, k_ge, k_eq, k_ne, k_isN, k_notN, k_in, k_nin, tr_str, q_int, q_bl, q_str, ofB_some, Option.map_some, tr_bl, tr_int, tr_non, tr_tup, tr_loc, trK_ok, td_bl, td_int, td_tup, i_tup, i_rls, i_loc, idxL_ok, okV_some, at0, at1, at2, at3, at_m1, tupK_ok, lstK_ok, negK_int, p_abs, p_int, p_intB, p_lenT, p_lenR, p_lenL, lenL_ok, p_sorted, p_sum, intsL_ok, allInt_map, srtI_ok, smI_ok, p_max, p_min, p_tupT, p_tupL, tupL_ok, p_lstT, p_lstL, lstL_ok, isD_ok, m_app, appL_ok, m_pop, popL_ok, m_rev, revL_ok, recv_ok, recvL_ok, set_loc, setL_ok, setI_ok, new_eq, Bool.not_true, Bool.not_false, if_true, eq_self, decide_true, decide_false,
  List.set_cons_zero, List.set_cons_succ, List.getElem?_cons_zero, List.getElem?_cons_succ, List.length_cons, List.length_nil, Option.some.injEq, List.cons_append, List.nil_append, List.append_assoc, Nat.reduceAdd, st_get, st_get0, st_set, st_set0, List.length_append, Nat.add_zero, Nat.zero_add, *])

def Bg (l g c : Nat) (S : Store) : Prop := ∃ x k gs cs, Bag3 S l g c x k gs cs
structure Ex (l g c : Nat) (S S' : Store) : Prop where
  ex : ∃ B X, S' = B ++ X ∧ Off S B l g ∧ Bg l g c B
theorem Off.trans {S S' S'' : Store} {l g : Nat} (h : Off S S' l g) (h' : Off S' S'' l g) : Off S S'' l g := ⟨h'.len.trans h.len, fun j a b => (h'.same j a b).trans (h.same j a b)⟩
section
variable {l g c : Nat} {S S' S'' : Store}
theorem Bg.app (h : Bg l g c S) (X : Store) : Bg l g c (S ++ X) := by
  obtain ⟨x, k, gs, cs, h⟩ := h
  exact ⟨x, k, gs, cs, bag_app h⟩
theorem Bg.lt (h : Bg l g c S) : l < S.length ∧ g < S.length ∧ c < S.length := by
  obtain ⟨x, k, gs, cs, h⟩ := h
  exact ⟨get_lt h.hl, get_lt h.hg, get_lt h.hc⟩
theorem Bg.cut {X : Store} (h : Bg l g c (S ++ X)) (hl : l < S.length) (hg : g < S.length) (hc : c < S.length) : Bg l g c S := by
  obtain ⟨x, k, gs, cs, h⟩ := h
  have a := h.hl
  have b := h.hg
  have d := h.hc
  rw [List.getElem?_append_left (by omega)] at a b d
  exact ⟨x, k, gs, cs, a, b, d, h.ne, h.lg, h.lc, h.gc⟩
theorem Ex.refl (h : Bg l g c S) : Ex l g c S S := ⟨S, [], by simp, Off.refl S l g, h⟩
theorem Ex.bg (h : Ex l g c S S') : Bg l g c S' := by
  obtain ⟨B, X, rfl, o, b⟩ := h.ex
  exact b.app X
theorem Ex.len (h : Ex l g c S S') : S.length ≤ S'.length := by
  obtain ⟨B, X, rfl, o, b⟩ := h.ex
  rw [List.length_append, o.len]
  omega
theorem Ex.lt (h : Ex l g c S S') : l < S.length ∧ g < S.length ∧ c < S.length := by
  obtain ⟨B, X, rfl, o, b⟩ := h.ex
  rw [← o.len]
  exact b.lt
theorem Ex.new (h : Ex l g c S S') (Y : Store) : Ex l g c S (S' ++ Y) := by
  obtain ⟨B, X, rfl, o, b⟩ := h.ex
  exact ⟨B, X ++ Y, by rw [List.append_assoc], o, b⟩
theorem Ex.trans (h : Ex l g c S S') (h' : Ex l g c S' S'') : Ex l g c S S'' := by
  obtain ⟨B, X, rfl, o, b⟩ := h.ex
  obtain ⟨B2, X2, rfl, o2, b2⟩ := h'.ex
  obtain ⟨h1, h2, h3⟩ := b.lt
  obtain ⟨B', rfl, o3⟩ := off_app o2 h1 h2
  refine ⟨B', X ++ X2, by rw [List.append_assoc], o.trans o3, b2.cut ?_ ?_ ?_⟩ <;> (rw [o3.len]; assumption)
theorem Ex.get (h : Ex l g c S S') {j : Nat} {o : SO} (hj : S[j]? = some o) (h1 : j ≠ l) (h2 : j ≠ g) : S'[j]? = some o := by
  obtain ⟨B, X, rfl, f, b⟩ := h.ex
  have := get_lt hj
  rw [List.getElem?_append_left (by rw [f.len]; exact this), f.same j h1 h2, hj]
theorem Ex.set (h : Ex l g c S S') {j : Nat} (hj : S.length ≤ j) (o : SO) : Ex l g c S (S'.set j o) := by
  obtain ⟨B, X, rfl, f, b⟩ := h.ex
  exact ⟨B, X.set (j - B.length) o, by rw [List.set_append_right _ _ (by rw [f.len]; exact hj)], f, b⟩
theorem Ex.here (h : Ex l g c S S') {j : Nat} (hj : S.length ≤ j) : j ≠ l ∧ j ≠ g := by
  have := h.lt
  omega
/-- the end of a def that forgets -/
theorem ex_end {fd : Fd} {r : Res (Flow × Env)} {d : D} {env : Env} (h : r = .ok (.ret d, env) S') (hp : fd.pure = true) (hE : Ex l g c S S') (hd : clD S.length d = true) : ∃ S'', endF fd S r = .ok d S'' ∧ Ex l g c S S'' ∧ S''.length = S.length := by
  obtain ⟨B, X, rfl, o, b⟩ := hE.ex
  refine ⟨B, ?_, ⟨B, [], by simp, o, b⟩, o.len⟩
  rw [end_ret h hp ?_ hd]
  · rw [List.take_append_of_le_length (by rw [o.len]; exact Nat.le_refl _), List.take_of_length_le (by rw [o.len]; exact Nat.le_refl _)]
  · refine ⟨by rw [List.length_append, o.len]; omega, fun j hj => ?_⟩
    rw [List.getElem?_append_left (by rw [o.len]; exact hj)]
    by_cases j1 : j = l
    · right
      obtain ⟨x, k, gs, cs, b3⟩ := b
      subst j1
      refine ⟨_, b3.hl, ?_⟩
      have hg := get_lt b3.hg
      have hc := get_lt b3.hc
      rw [o.len] at hg hc
      simp [clO, clDs, clD, hg, hc]
    · by_cases j2 : j = g
      · right
        obtain ⟨x, k, gs, cs, b3⟩ := b
        subst j2
        exact ⟨_, b3.hg, clDs_ints _ _⟩
      · left
        exact o.same j j1 j2
theorem ex_any {fd : Fd} {r : Res (Flow × Env)} {d : D} {env : Env} (h : r = .ok (.ret d, env) S') (hp : fd.pure = false) (hE : Ex l g c S S') : ∃ S'', endF fd S r = .ok d S'' ∧ Ex l g c S S'' ∧ S'' = S' := ⟨S', end_any h hp, hE, rfl⟩
end
/-! ### what a reading must come to -/
def Wp {α : Type} (r : Res α) (Q : α → Store → Prop) : Prop := ∃ a S, r = .ok a S ∧ Q a S
theorem wp_ok {α : Type} (a : α) (S : Store) (Q : α → Store → Prop) : Wp (.ok a S) Q = Q a S := by
  apply propext
  constructor
  · rintro ⟨b, T, e, q⟩
    cases e
    exact q
  · exact fun q => ⟨a, S, rfl, q⟩
theorem wp_bnd {α β : Type} {r : Res α} {k : α → Store → Res β} {Q : β → Store → Prop} (h : Wp r fun a S => Wp (k a S) Q) : Wp (r.bnd k) Q := by
  obtain ⟨a, S, rfl, b, T, e, q⟩ := h
  exact ⟨b, T, by rw [bnd_ok, e], q⟩
theorem wp_tru {r : Res D} {Q : Bool → Store → Prop} (h : Wp r fun d S => Wp (truR (.ok d S)) Q) : Wp (truR r) Q := by
  obtain ⟨a, S, rfl, q⟩ := h
  exact q
theorem wp_optI {r : Res D} {Q : Option Int → Store → Prop} (h : Wp r fun d S => Wp (optI (.ok d S)) Q) : Wp (optI r) Q := by
  obtain ⟨a, S, rfl, q⟩ := h
  exact q
theorem wp_of {α : Type} {r : Res α} {a : α} {S : Store} {Q : α → Store → Prop} (e : r = .ok a S) (q : Q a S) : Wp r Q := ⟨a, S, e, q⟩
theorem wp_mono {α : Type} {r : Res α} {Q Q' : α → Store → Prop} (h : Wp r Q) (m : ∀ a S, Q a S → Q' a S) : Wp r Q' := by
  obtain ⟨a, S, e, q⟩ := h
  exact ⟨a, S, e, m a S q⟩
section
variable {P : Prg} {l g c : Nat} {S : Store} {Q : D → Store → Prop}
theorem wp_draw {f : Nat} (hf : P f = some ⟨2, 5, B_draw, false⟩) {N : Nat} (hN : 1 ≤ N) (hB : Bg l g c S) {m : Int} (h0 : 0 < m) (h1 : m < 2 ^ 60) (h : ∀ (r : Int) (S' : Store), 0 ≤ r → r < m → Ex l g c S S' → S'.length = S.length → Q (.int r) S') : Wp (callN P N f [.loc l, .int m] S) Q := by
  obtain ⟨n, rfl⟩ : ∃ n, N = n + 1 := ⟨N - 1, by omega⟩
  obtain ⟨x, k, gs, cs, b⟩ := hB
  obtain ⟨r, S', x', k', gs', e, a1, a2, b', o⟩ := draw3 hf n S l g c x k gs cs m b h0 (Nat.lt_of_lt_of_le (show m.natAbs < 2 ^ 60 by omega) (pow_le_pow (by decide)))
  exact ⟨_, S', e, h r S' a1 a2 ⟨S', [], by simp, o, x', k', gs', cs, b'⟩ o.len⟩
theorem wp_pickL {f d0 : Nat} (hf : P f = some ⟨2, 2, B_pick d0, false⟩) (hd : P d0 = some ⟨2, 5, B_draw, false⟩) {N : Nat} (hN : 2 ≤ N) (hB : Bg l g c S) {j : Nat} {ds : List D} (hj : S[j]? = some (.lst ds)) (hj1 : j ≠ l) (hj2 : j ≠ g) (hne : ds ≠ []) (hlen : ds.length ≤ 100000)
    (h : ∀ (d : D) (S' : Store), d ∈ ds → Ex l g c S S' → Q d S') : Wp (callN P N f [.loc l, .loc j] S) Q := by
  obtain ⟨n, rfl⟩ : ∃ n, N = n + 2 := ⟨N - 2, by omega⟩
  have hp := len_pos hne
  obtain ⟨dr, S', e, r, rfl, h0, h1, hE, hl⟩ := wp_draw (Q := fun d S' => ∃ r : Int, d = .int r ∧ 0 ≤ r ∧ r < (ds.length : Int) ∧ Ex l g c S S' ∧ S'.length = S.length) hd (N := n + 1) (by omega) hB (m := (ds.length : Int)) (by omega) (by omega) fun r S' a b hE hl => ⟨r, rfl, a, b, hE, hl⟩
  refine ⟨ds[r.toNat]'(by omega), S', ?_, h _ _ (List.getElem_mem _) hE⟩
  rw [callN_eq (n + 1) _ _ hf rfl (Nat.le_of_ble_eq_true rfl)]
  refine end_any (env := [some (.loc l), some (.loc j)]) ?_ rfl
  show exSs (callN P (n + 1)) (B_pick d0) [some (.loc l), some (.loc j)] S = _
  unfold B_pick
  have e2 := hE.get hj hj1 hj2
  have e3 := at_nat (xs := ds) h0 (by omega)
  clear hE h hB
  walk_at "ev*"
theorem wp_pickT {f d0 : Nat} (hf : P f = some ⟨2, 2, B_pick d0, false⟩) (hd : P d0 = some ⟨2, 5, B_draw, false⟩) {N : Nat} (hN : 2 ≤ N) (hB : Bg l g c S) {ds : List D} (hne : ds ≠ []) (hlen : ds.length ≤ 100000)
    (h : ∀ (d : D) (S' : Store), d ∈ ds → Ex l g c S S' → Q d S') : Wp (callN P N f [.loc l, .tup ds] S) Q := by
  obtain ⟨n, rfl⟩ : ∃ n, N = n + 2 := ⟨N - 2, by omega⟩
  have hp := len_pos hne
  obtain ⟨dr, S', e, r, rfl, h0, h1, hE, hl⟩ := wp_draw (Q := fun d S' => ∃ r : Int, d = .int r ∧ 0 ≤ r ∧ r < (ds.length : Int) ∧ Ex l g c S S' ∧ S'.length = S.length) hd (N := n + 1) (by omega) hB (m := (ds.length : Int)) (by omega) (by omega) fun r S' a b hE hl => ⟨r, rfl, a, b, hE, hl⟩
  refine ⟨ds[r.toNat]'(by omega), S', ?_, h _ _ (List.getElem_mem _) hE⟩
  rw [callN_eq (n + 1) _ _ hf rfl (Nat.le_of_ble_eq_true rfl)]
  refine end_any (env := [some (.loc l), some (.tup ds)]) ?_ rfl
  show exSs (callN P (n + 1)) (B_pick d0) [some (.loc l), some (.tup ds)] S = _
  unfold B_pick
  have e3 := at_nat (xs := ds) h0 (by omega)
  clear hE h hB
  walk_at "ev*"
theorem wp_drawE {f : Nat} (hf : P f = some ⟨2, 5, B_draw, false⟩) {N : Nat} (hN : 1 ≤ N) (hB : Bg l g c S) {m : Int} (h0 : 0 < m) (h1 : m < 2 ^ 60) (h : ∀ (r : Int) (S' : Store), 0 ≤ r → r < m → Ex l g c S S' → Q (.int r) S') : Wp (callN P N f [.loc l, .int m] S) Q :=
  wp_draw hf hN hB h0 h1 fun r S' a b e _ => h r S' a b e
/-- a call whose law stands -/
theorem wp_fn {N f : Nat} {args : List D} {Post : D → Prop} (h0 : ∃ d S', callN P N f args S = .ok d S' ∧ Post d ∧ Ex l g c S S') (h : ∀ (d : D) (S' : Store), Post d → Ex l g c S S' → Q d S') : Wp (callN P N f args S) Q := by
  obtain ⟨d, S', e, p, hE⟩ := h0
  exact ⟨d, S', e, h d S' p hE⟩
end
theorem wp_seq {F : Fns} {s : St} {ss : Ss} {env : Env} {S : Store} {Q : Flow × Env → Store → Prop} (Mid : Env → Store → Prop) (h : Wp (exS F s env S) fun r S' => r.1 = .next ∧ Mid r.2 S') (k : ∀ env' S', Mid env' S' → Wp (exSs F ss env' S') Q) : Wp (exSs F (.cons s ss) env S) Q := by
  obtain ⟨⟨fl, e⟩, S1, h1, h2, h3⟩ := h
  obtain rfl : fl = .next := h2
  obtain ⟨r, S2, e2, q⟩ := k e S1 h3
  exact ⟨r, S2, by rw [xSs_cons, h1, bnd_ok, sqK_n, e2], q⟩
/-- a loop whose turns are counted -/
theorem fo_cnt (F : Fns) (t : Tg) (b : Ss) (w : Walk) (Inv : Nat → Env → Store → Prop) (hw : ∀ k e s, Inv k e s → w.here s) (K : Nat) : ∀ (items : List D) (k : Nat), k + items.length ≤ K →
    (∀ d ∈ items, ∀ k e s, k < K → Inv k e s → ∃ e1, asgT t d s e = some e1 ∧ Wp (exSs F b e1 s) fun r s2 => r.1 = .next ∧ Inv (k + 1) r.2 s2) →
    ∀ e s, Inv k e s → ∃ e2 s2, foS F t b w items e s = .ok (.next, e2) s2 ∧ Inv (k + items.length) e2 s2
  | [], k, _, _, e, s, h => ⟨e, s, fo_nil _ _ _ _ _ _ (hw k e s h), h⟩
  | d :: ds, k, hk, step, e, s, h => by
    rw [List.length_cons] at hk
    obtain ⟨e1, a1, ⟨fl, e2⟩, s2, a2, a3, a4⟩ := step d (List.mem_cons_self ..) k e s (by omega) h
    obtain rfl : fl = .next := a3
    obtain ⟨e3, s3, b1, b2⟩ := fo_cnt F t b w Inv hw K ds (k + 1) (by omega) (fun x hx => step x (List.mem_cons_of_mem _ hx)) e2 s2 a4
    refine ⟨e3, s3, ?_, by rw [List.length_cons, show k + (ds.length + 1) = k + 1 + ds.length from by omega]; exact b2⟩
    rw [fo_cons _ _ _ _ _ _ _ _ (hw k e s h), a1, foT_some, a2, bnd_ok, foK_n, b1]
/-- a list comprehension whose turns draw -/
theorem wp_lc {l g c : Nat} {S : Store} {F : Fns} {env : Env} {t : Tg} {own : List Nat} {elt : E} {w : Walk} {items : List D} {Q : List D → Store → Prop} (R : D → Prop) (hB : Bg l g c S) (hw : ∀ S', Ex l g c S S' → w.here S') (hl : items.length < 1000000)
    (h : ∀ d ∈ items, ∀ S', Ex l g c S S' → ∃ env1, asgT t d S' (wipeE env own) = some env1 ∧ Wp (evE F elt env1 S') fun x S2 => R x ∧ Ex l g c S S2)
    (hQ : ∀ (xs : List D) (S' : Store), xs.length = items.length → (∀ x ∈ xs, R x) → Ex l g c S S' → Q xs S') : Wp (lcS F env t own .nil elt w items [] S) Q := by
  obtain ⟨xs, S', e, a, b, d⟩ := lc_effD F env t own elt w (Ex l g c S) R hw items [] S (Ex.refl hB) (by show 0 + _ < 16777216; omega) fun d hd S1 h1 => by
    obtain ⟨env1, a1, x, S2, a2, a3, a4⟩ := h d hd S1 h1
    exact ⟨env1, x, S2, a1, a2, a3, a4⟩
  rw [List.nil_append] at e
  exact ⟨xs, S', e, hQ xs S' a b d⟩
theorem ints_of {p : Int → Prop} : ∀ {xs : List D}, (∀ x ∈ xs, ∃ i, x = .int i ∧ p i) → ∃ is : List Int, xs = is.map .int ∧ ∀ i ∈ is, p i
  | [], _ => ⟨[], rfl, by simp⟩
  | x :: xs, h => by
    obtain ⟨i, rfl, hi⟩ := h x List.mem_cons_self
    obtain ⟨is, rfl, his⟩ := ints_of fun y hy => h y (List.mem_cons_of_mem _ hy)
    exact ⟨i :: is, rfl, fun j hj => by exact (List.mem_cons.mp hj).elim (fun e => e ▸ hi) fun hj => his j hj⟩
/-- sums of small numbers -/
theorem sum_rng : ∀ {is : List Int} {a b : Int}, 0 ≤ a → (∀ i ∈ is, a ≤ i ∧ i ≤ b) → (∀ i ∈ is, i ≤ is.sum) ∧ is.sum ≤ b * is.length ∧ 0 ≤ is.sum
  | [], a, b, _, _ => by simp
  | x :: xs, a, b, ha, h => by
    obtain ⟨h1, h2, h3⟩ := sum_rng ha fun i hi => h i (List.mem_cons_of_mem _ hi)
    obtain ⟨hx, hx2⟩ := h x List.mem_cons_self
    rw [List.sum_cons, List.length_cons]
    refine ⟨fun i hi => ?_, ?_, by omega⟩
    · rcases List.mem_cons.mp hi with rfl | hi
      · omega
      · have := h1 i hi; omega
    · have e : b * ((xs.length + 1 : Nat) : Int) = b * xs.length + b := by rw [Int.natCast_add, Int.mul_add]; simp
      rw [e]
      omega
theorem at_new (S : Store) (o : SO) : (S ++ [o])[S.length]? = some o := by simp
theorem nlg {l g c j : Nat} {S : Store} (h : Bg l g c S) (hj : S.length ≤ j) : j ≠ l ∧ j ≠ g := by
  have := h.lt
  omega
theorem int_of {d : D} {xs : List Int} (h : d ∈ xs.map D.int) : ∃ i, d = .int i ∧ i ∈ xs := by
  obtain ⟨i, hi, rfl⟩ := List.mem_map.mp h
  exact ⟨i, rfl, hi⟩
mutual
theorem noloc_cl (n : Nat) : ∀ d : D, pyD d ≠ none → clD n d = true
  | .non, _ => rfl
  | .bl _, _ => rfl
  | .int _, _ => rfl
  | .str _, _ => rfl
  | .loc _, h => absurd rfl h
  | .tup ds, h => by
    unfold clD
    exact noloc_cls n ds fun e => h (by rw [pyD, e]; rfl)
  | .rls ds, h => by
    unfold clD
    exact noloc_cls n ds fun e => h (by rw [pyD, e]; rfl)
theorem noloc_cls (n : Nat) : ∀ ds : List D, pyDs ds ≠ none → clDs n ds = true
  | [], _ => rfl
  | d :: ds, h => by
    unfold clDs
    rw [noloc_cl n d fun e => h (by rw [pyDs, e]), noloc_cls n ds fun e => h (by rw [pyDs, e]; cases pyD d <;> rfl)]
    rfl
end
theorem dk_cl (n : Nat) {k : Nat} {d : D} (h : Dk k d) : clD n d = true := by
  obtain ⟨x, e, _⟩ := dk_py k d h
  exact noloc_cl n d (by rw [e]; simp)
end
end SX
namespace LW
open PySem PySem.Spec PyProof.Rows L2 SX
def topS (i : Nat) : Stmt := PySem.Challenge.pw_surecrossing_k02_data_and_courses.main.body.getD i (.Pass ⟨0, 0, 0, 0⟩)
/-! ### the bodies -/
def b_is_whole : Ss := .cons (.ret (.and (.cons (.isin .int (.var 0)) (.cons (.not (.isin .bool (.var 0))) .nil)))) .nil
def b_is_tuple : Ss := .cons (.ret (.and (.cons (.isin .tuple (.var 0)) (.cons (.cmp .eq (.prim .len (.cons (.var 0) .nil)) (.var 1)) .nil)))) .nil
def b_is_number : Ss := .cons (.ret (.and (.cons (.call 0 (.cons (.var 0) .nil)) (.cons (.chain .le .le (.var 1) (.var 0) (.var 2)) .nil)))) .nil
def b_is_stream : Ss := .cons (.ite (.or (.cons (.not (.call 1 (.cons (.var 0) (.cons (.cint 3) .nil)))) (.cons (.not (.isin .tuple (.idx (.var 0) (.cint 0)))) (.cons (.not (.idx (.var 0) (.cint 0))) .nil)))) (.cons (.ret (.cbl false)) .nil) .nil) (.cons (.ite (.not (.qual true (.call 2 (.cons (.var 3) (.cons (.cint 0) (.cons (.gcon (PySem.Str.ofString "MOST_TICK") (.int 100000)) .nil)))) (.nm 3) (.seq (.idx (.var 0) (.cint 0))) .nil [3])) (.cons (.ret (.cbl false)) .nil) .nil) (.cons (.ite (.qual false (.cmp .gt (.var 1) (.var 2)) (.tp (.cons (.nm 1) (.cons (.nm 2) .nil))) (.zip (.idx (.var 0) (.cint 0)) (.slc (.idx (.var 0) (.cint 0)) (.cint 1) (.absent))) .nil [1, 2]) (.cons (.ret (.cbl false)) .nil) .nil) (.cons (.ret (.and (.cons (.call 2 (.cons (.idx (.var 0) (.cint 1)) (.cons (.cint 1) (.cons (.cint 60) .nil)))) (.cons (.call 2 (.cons (.idx (.var 0) (.cint 2)) (.cons (.cint 0) (.cons (.cint 60) .nil)))) .nil)))) .nil)))
def b_is_fate : Ss := .cons (.ret (.or (.cons (.cmp .isN (.var 2) (.cnon)) (.cons (.call 2 (.cons (.var 2) (.cons (.idx (.var 0) (.bin .mul (.cint 2) (.var 1))) (.cons (.idx (.var 0) (.bin .add (.bin .mul (.cint 2) (.var 1)) (.cint 1))) .nil)))) .nil)))) .nil
def b__law_bag : Ss := .cons (.asg (.nm 1) (.bin .add (.lc (.prim .abs (.cons (.prim .int (.cons (.var 3) .nil)) .nil)) (.nm 3) (.seq (.var 0)) .nil [3]) (.lst (.cons (.cint 7) .nil)))) (.cons (.asg (.nm 2) (.lst .nil)) (.cons (.ite (.cmp .eq (.bin .mod (.prim .int (.cons (.idx (.var 1) (.cint 0)) .nil)) (.cint 2)) (.cint 0)) (.cons (.asg (.nm 2) (.lc (.bin .fdiv (.var 3) (.cint 2)) (.nm 3) (.seq (.var 1)) (.cons (.cmp .ge (.var 3) (.bin .pow (.cint 10) (.cint 18))) .nil) [3])) (.cons (.expr (.meth .reverse (.var 2) .nil)) .nil)) .nil) (.cons (.ret (.lst (.cons (.cint 0) (.cons (.cint 0) (.cons (.var 2) (.cons (.lc (.bin .mod (.prim .int (.cons (.var 3) .nil)) (.cint 2147483647)) (.nm 3) (.seq (.var 1)) .nil [3]) .nil)))))) .nil)))
def b__law_draw : Ss := .cons (.setS (.var 0) (.cint 1) (.bin .add (.idx (.var 0) (.cint 1)) (.cint 1))) (.cons (.ite (.and (.cons (.cmp .eq (.idx (.var 0) (.cint 0)) (.cint 0)) (.cons (.cmp .gt (.prim .len (.cons (.idx (.var 0) (.cint 2)) .nil)) (.cint 0)) .nil))) (.cons (.setS (.var 0) (.cint 0) (.meth .pop (.idx (.var 0) (.cint 2)) .nil)) .nil) .nil) (.cons (.ite (.cmp .gt (.idx (.var 0) (.cint 0)) (.cint 0)) (.cons (.asg (.nm 2) (.bin .mod (.prim .int (.cons (.idx (.var 0) (.cint 0)) .nil)) (.var 1))) (.cons (.setS (.var 0) (.cint 0) (.bin .fdiv (.idx (.var 0) (.cint 0)) (.var 1))) (.cons (.ret (.var 2)) .nil))) .nil) (.cons (.asg (.nm 3) (.idx (.idx (.var 0) (.cint 3)) (.bin .mod (.prim .int (.cons (.idx (.var 0) (.cint 1)) .nil)) (.prim .len (.cons (.idx (.var 0) (.cint 3)) .nil))))) (.cons (.asg (.nm 4) (.bin .mod (.prim .int (.cons (.bin .add (.bin .add (.bin .mul (.var 3) (.cint 48271)) (.bin .mul (.idx (.var 0) (.cint 1)) (.cint 69621))) (.cint 1)) .nil)) (.cint 2147483647))) (.cons (.ret (.bin .mod (.bin .fdiv (.bin .mod (.prim .int (.cons (.bin .add (.bin .add (.bin .mul (.var 4) (.var 4)) (.bin .mul (.var 4) (.cint 16807))) (.bin .mul (.idx (.var 0) (.cint 1)) (.cint 40014))) .nil)) (.cint 2147483629)) (.cint 32)) (.var 1))) .nil)))))
def b__law_pick : Ss := .cons (.ret (.idx (.var 1) (.call 6 (.cons (.var 0) (.cons (.prim .len (.cons (.var 1) .nil)) .nil))))) .nil
def b__law_is_number : Ss := .cons (.ret (.and (.cons (.isin .int (.var 0)) (.cons (.not (.isin .bool (.var 0))) (.cons (.chain .le .le (.var 1) (.var 0) (.var 2)) .nil))))) .nil
def b__law_is_stream : Ss := .cons (.ite (.or (.cons (.not (.isin .tuple (.var 0))) (.cons (.cmp .ne (.prim .len (.cons (.var 0) .nil)) (.cint 3)) (.cons (.not (.isin .tuple (.idx (.var 0) (.cint 0)))) (.cons (.cmp .eq (.idx (.var 0) (.cint 0)) (.tup .nil)) .nil))))) (.cons (.ret (.cbl false)) .nil) .nil) (.cons (.asg (.nm 1) (.cint 0)) (.cons (.fo (.nm 2) (.seq (.idx (.var 0) (.cint 0))) (.cons (.ite (.not (.call 8 (.cons (.var 2) (.cons (.var 1) (.cons (.cint 100000) .nil))))) (.cons (.ret (.cbl false)) .nil) .nil) (.cons (.asg (.nm 1) (.var 2)) .nil))) (.cons (.ret (.and (.cons (.call 8 (.cons (.idx (.var 0) (.cint 1)) (.cons (.cint 1) (.cons (.cint 60) .nil)))) (.cons (.call 8 (.cons (.idx (.var 0) (.cint 2)) (.cons (.cint 0) (.cons (.cint 60) .nil)))) .nil)))) .nil)))
def b__law_data_fault : Ss := .cons (.ite (.or (.cons (.not (.isin .tuple (.var 0))) (.cons (.cmp .eq (.var 0) (.tup .nil)) .nil))) (.cons (.ret (.neg (.cint 1))) .nil) .nil) (.cons (.asg (.nm 1) (.cint 0)) (.cons (.fo (.nm 2) (.range1 (.prim .len (.cons (.var 0) .nil))) (.cons (.ite (.or (.cons (.cmp .eq (.var 2) (.cint 3)) (.cons (.not (.call 9 (.cons (.idx (.var 0) (.var 2)) .nil))) .nil))) (.cons (.ret (.var 2)) .nil) .nil) (.cons (.aug 1 .add (.prim .len (.cons (.idx (.idx (.var 0) (.var 2)) (.cint 0)) .nil))) (.cons (.ite (.cmp .gt (.var 1) (.cint 60)) (.cons (.ret (.var 2)) .nil) .nil) .nil)))) (.cons (.ret (.cnon)) .nil)))
def b__law_course_fault : Ss := .cons (.ite (.or (.cons (.not (.isin .tuple (.var 0))) (.cons (.cmp .ne (.prim .len (.cons (.var 0) .nil)) (.cint 2)) (.cons (.not (.isin .tuple (.idx (.var 0) (.cint 0)))) (.cons (.not (.isin .tuple (.idx (.var 0) (.cint 1)))) .nil))))) (.cons (.ret (.neg (.cint 1))) .nil) .nil) (.cons (.fo (.nm 2) (.range1 (.cint 2)) (.cons (.ite (.cmp .gt (.prim .len (.cons (.idx (.var 0) (.var 2)) .nil)) (.cint 400)) (.cons (.ret (.var 2)) .nil) .nil) (.cons (.fo (.nm 3) (.seq (.idx (.var 0) (.var 2))) (.cons (.ite (.and (.cons (.cmp .notN (.var 3) (.cnon)) (.cons (.not (.call 8 (.cons (.var 3) (.cons (.idx (.var 1) (.bin .mul (.cint 2) (.var 2))) (.cons (.idx (.var 1) (.bin .add (.bin .mul (.cint 2) (.var 2)) (.cint 1))) .nil))))) .nil))) (.cons (.ret (.var 2)) .nil) .nil) .nil)) .nil))) (.cons (.ret (.cnon)) .nil))
def b__law_stream_of : Ss := .cons (.asg (.nm 2) (.prim .sorted (.cons (.lc (.call 7 (.cons (.var 0) (.cons (.lst (.cons (.cint 0) (.cons (.cint 100000) (.cons (.cint 3) (.cons (.call 6 (.cons (.var 0) (.cons (.cint 100) .nil))) (.cons (.cint 99999) .nil)))))) .nil))) (.nm 3) (.range1 (.var 1)) .nil [3]) .nil))) (.cons (.ret (.tup (.cons (.prim .tuple (.cons (.var 2) .nil)) (.cons (.call 7 (.cons (.var 0) (.cons (.lst (.cons (.cint 1) (.cons (.cint 60) (.cons (.cint 5) .nil)))) .nil))) (.cons (.call 7 (.cons (.var 0) (.cons (.lst (.cons (.cint 0) (.cons (.cint 60) (.cons (.cint 2) .nil)))) .nil))) .nil))))) .nil)
def b__law_data_of : Ss := .cons (.asg (.nm 1) (.bin .add (.cint 1) (.call 6 (.cons (.var 0) (.cons (.cint 3) .nil))))) (.cons (.asg (.nm 2) (.lc (.bin .add (.cint 1) (.call 6 (.cons (.var 0) (.cons (.cint 5) .nil)))) (.nm 3) (.range1 (.var 1)) .nil [3])) (.cons (.ite (.cmp .eq (.call 6 (.cons (.var 0) (.cons (.cint 3) .nil))) (.cint 0)) (.cons (.augS (.var 2) (.call 6 (.cons (.var 0) (.cons (.var 1) .nil))) .add (.bin .sub (.cint 60) (.prim .sum (.cons (.var 2) .nil)))) .nil) .nil) (.cons (.ret (.prim .tuple (.cons (.lc (.call 12 (.cons (.var 0) (.cons (.var 4) .nil))) (.nm 4) (.seq (.var 2)) .nil [4]) .nil))) .nil)))
def b__law_exchanged : Ss := .cons (.ret (.bin .add (.bin .add (.slc (.var 0) (.absent) (.var 1)) (.tup (.cons (.var 2) .nil))) (.slc (.var 0) (.bin .add (.var 1) (.cint 1)) (.absent)))) .nil
def b__law_spoilt_stream : Ss := .cons (.asg (.nm 2) (.call 6 (.cons (.var 0) (.cons (.cint 9) .nil)))) (.cons (.par [3, 4] (.cons (.idx (.var 1) (.cint 0)) (.cons (.call 6 (.cons (.var 0) (.cons (.prim .len (.cons (.idx (.var 1) (.cint 0)) .nil)) .nil))) .nil))) (.cons (.ite (.cmp .eq (.var 2) (.cint 0)) (.cons (.ret (.tup (.cons (.call 14 (.cons (.var 3) (.cons (.bin .sub (.prim .len (.cons (.var 3) .nil)) (.cint 1)) (.cons (.cint 100001) .nil)))) (.cons (.idx (.var 1) (.cint 1)) (.cons (.idx (.var 1) (.cint 2)) .nil))))) .nil) .nil) (.cons (.ite (.cmp .eq (.var 2) (.cint 1)) (.cons (.ret (.tup (.cons (.call 14 (.cons (.var 3) (.cons (.cint 0) (.cons (.neg (.cint 1)) .nil)))) (.cons (.idx (.var 1) (.cint 1)) (.cons (.idx (.var 1) (.cint 2)) .nil))))) .nil) .nil) (.cons (.ite (.cmp .eq (.var 2) (.cint 2)) (.cons (.ret (.tup (.cons (.bin .add (.bin .add (.slc (.var 3) (.absent) (.bin .add (.var 4) (.cint 1))) (.tup (.cons (.bin .sub (.idx (.var 3) (.var 4)) (.cint 1)) .nil))) (.slc (.var 3) (.bin .add (.var 4) (.cint 1)) (.absent))) (.cons (.idx (.var 1) (.cint 1)) (.cons (.idx (.var 1) (.cint 2)) .nil))))) .nil) .nil) (.cons (.ite (.cmp .eq (.var 2) (.cint 3)) (.cons (.ret (.tup (.cons (.call 14 (.cons (.var 3) (.cons (.var 4) (.cons (.call 7 (.cons (.var 0) (.cons (.lst (.cons (.cnon) (.cons (.cbl true) (.cons (.cbl false) (.cons (.cstr (PySem.Str.ofString "1")) (.cons (.tup (.cons (.cint 1) .nil)) (.cons (.tup .nil) .nil))))))) .nil))) .nil)))) (.cons (.idx (.var 1) (.cint 1)) (.cons (.idx (.var 1) (.cint 2)) .nil))))) .nil) .nil) (.cons (.ite (.cmp .eq (.var 2) (.cint 4)) (.cons (.ret (.tup (.cons (.var 3) (.cons (.call 7 (.cons (.var 0) (.cons (.lst (.cons (.cint 0) (.cons (.cint 61) (.cons (.cbl true) (.cons (.cnon) (.cons (.cstr (PySem.Str.ofString "5")) (.cons (.neg (.cint 1)) .nil))))))) .nil))) (.cons (.idx (.var 1) (.cint 2)) .nil))))) .nil) .nil) (.cons (.ite (.cmp .eq (.var 2) (.cint 5)) (.cons (.ret (.tup (.cons (.var 3) (.cons (.idx (.var 1) (.cint 1)) (.cons (.call 7 (.cons (.var 0) (.cons (.lst (.cons (.neg (.cint 1)) (.cons (.cint 61) (.cons (.cbl false) (.cons (.cbl true) (.cons (.cnon) (.cons (.cstr (PySem.Str.ofString "0")) .nil))))))) .nil))) .nil))))) .nil) .nil) (.cons (.ite (.cmp .eq (.var 2) (.cint 6)) (.cons (.ret (.call 7 (.cons (.var 0) (.cons (.lst (.cons (.tup (.cons (.tup .nil) (.cons (.idx (.var 1) (.cint 1)) (.cons (.idx (.var 1) (.cint 2)) .nil)))) (.cons (.slc (.var 1) (.absent) (.cint 2)) (.cons (.bin .add (.var 1) (.tup (.cons (.cint 1) .nil))) (.cons (.tup (.cons (.idx (.var 3) (.cint 0)) (.cons (.idx (.var 1) (.cint 1)) (.cons (.idx (.var 1) (.cint 2)) .nil)))) (.cons (.tup (.cons (.cstr (PySem.Str.ofString "12")) (.cons (.cint 1) (.cons (.cint 1) .nil)))) .nil)))))) .nil)))) .nil) .nil) (.cons (.ite (.cmp .eq (.var 2) (.cint 7)) (.cons (.ret (.call 7 (.cons (.var 0) (.cons (.lst (.cons (.cnon) (.cons (.cbl true) (.cons (.cstr (PySem.Str.ofString "stream")) (.cons (.tup .nil) (.cons (.cint 5) (.cons (.var 3) .nil))))))) .nil)))) .nil) .nil) (.cons (.ret (.tup (.cons (.var 3) (.cons (.cint 0) (.cons (.cint 61) .nil))))) .nil))))))))))
def b__law_data_values : Ss := .cons (.asg (.nm 1) (.lst (.cons (.tup .nil) (.cons (.cnon) (.cons (.cbl true) (.cons (.cstr (PySem.Str.ofString "data")) (.cons (.cint 7) (.cons (.tup (.cons (.tup .nil) .nil)) (.cons (.tup (.cons (.cnon) .nil)) .nil))))))))) (.cons (.fo (.nm 2) (.range1 (.cint 9)) (.cons (.asg (.nm 3) (.call 13 (.cons (.var 0) .nil))) (.cons (.asg (.nm 4) (.call 6 (.cons (.var 0) (.cons (.prim .len (.cons (.var 3) .nil)) .nil)))) (.cons (.asg (.nm 1) (.bin .add (.var 1) (.lst (.cons (.var 3) (.cons (.call 14 (.cons (.var 3) (.cons (.var 4) (.cons (.call 15 (.cons (.var 0) (.cons (.idx (.var 3) (.var 4)) .nil))) .nil)))) .nil))))) (.cons (.expr (.meth .append (.var 1) (.cons (.call 14 (.cons (.idx (.var 1) (.neg (.cint 1))) (.cons (.call 6 (.cons (.var 0) (.cons (.prim .len (.cons (.var 3) .nil)) .nil))) (.cons (.call 15 (.cons (.var 0) (.cons (.idx (.var 3) (.cint 0)) .nil))) .nil)))) .nil))) (.cons (.asg (.nm 1) (.bin .add (.var 1) (.lst (.cons (.bin .add (.var 3) (.tup (.cons (.call 12 (.cons (.var 0) (.cons (.cint 1) .nil))) .nil))) (.cons (.call 14 (.cons (.var 3) (.cons (.var 4) (.cons (.tup (.cons (.bin .add (.idx (.idx (.var 3) (.var 4)) (.cint 0)) (.bin .mul (.tup (.cons (.cint 100000) .nil)) (.cint 59))) (.cons (.idx (.idx (.var 3) (.var 4)) (.cint 1)) (.cons (.idx (.idx (.var 3) (.var 4)) (.cint 2)) .nil)))) .nil)))) .nil))))) .nil)))))) (.cons (.asg (.nm 5) (.call 12 (.cons (.var 0) (.cons (.cint 1) .nil)))) (.cons (.asg (.nm 6) (.call 12 (.cons (.var 0) (.cons (.cint 60) .nil)))) (.cons (.asg (.nm 1) (.bin .add (.var 1) (.lst (.cons (.tup (.cons (.var 6) .nil)) (.cons (.tup (.cons (.var 6) (.cons (.var 5) .nil))) (.cons (.tup (.cons (.var 5) (.cons (.var 6) .nil))) (.cons (.tup (.cons (.var 6) (.cons (.var 5) (.cons (.cnon) .nil)))) (.cons (.tup (.cons (.var 6) (.cons (.var 5) (.cons (.var 5) (.cons (.var 5) .nil))))) (.cons (.tup (.cons (.var 6) (.cons (.cnon) .nil))) (.cons (.var 5) .nil)))))))))) (.cons (.ret (.bin .add (.var 1) (.lst (.cons (.bin .mul (.tup (.cons (.var 5) .nil)) (.cint 3)) (.cons (.bin .mul (.tup (.cons (.var 5) .nil)) (.cint 4)) (.cons (.bin .mul (.tup (.cons (.var 5) .nil)) (.cint 5)) (.cons (.tup (.cons (.var 5) (.cons (.var 5) (.cons (.var 5) (.cons (.cnon) .nil))))) (.cons (.tup (.cons (.var 5) (.cons (.cnon) (.cons (.var 5) (.cons (.var 5) .nil))))) .nil)))))))) .nil)))))
def b__law_fates_of : Ss := .cons (.ret (.prim .tuple (.cons (.lc (.call 7 (.cons (.var 0) (.cons (.lst (.cons (.cnon) (.cons (.var 1) (.cons (.var 2) (.cons (.bin .add (.var 1) (.call 6 (.cons (.var 0) (.cons (.bin .add (.bin .sub (.var 2) (.var 1)) (.cint 1)) .nil)))) .nil))))) .nil))) (.nm 4) (.range1 (.var 3)) .nil [4]) .nil))) .nil
def b__law_course_values : Ss := .cons (.asg (.nm 2) (.lst (.cons (.tup .nil) (.cons (.cnon) (.cons (.cbl true) (.cons (.cstr (PySem.Str.ofString "go")) (.cons (.cint 2) (.cons (.tup (.cons (.tup .nil) .nil)) (.cons (.tup (.cons (.tup .nil) (.cons (.tup .nil) (.cons (.tup .nil) .nil)))) (.cons (.tup (.cons (.tup .nil) (.cons (.cnon) .nil))) (.cons (.tup (.cons (.cnon) (.cons (.tup .nil) .nil))) (.cons (.tup (.cons (.tup .nil) (.cons (.tup .nil) .nil))) (.cons (.tup (.cons (.cstr (PySem.Str.ofString "")) (.cons (.tup .nil) .nil))) (.cons (.tup (.cons (.tup .nil) (.cons (.cstr (PySem.Str.ofString "1")) .nil))) (.cons (.tup (.cons (.tup (.cons (.cint 0) .nil)) .nil)) (.cons (.tup (.cons (.tup (.cons (.cint 0) .nil)) (.cons (.tup .nil) (.cons (.tup .nil) .nil)))) (.cons (.tup (.cons (.cnon) (.cons (.tup (.cons (.cint 0) .nil)) .nil))) (.cons (.tup (.cons (.tup (.cons (.cint 0) .nil)) (.cons (.cnon) .nil))) .nil)))))))))))))))))) (.cons (.fo (.nm 3) (.range1 (.cint 7)) (.cons (.asg (.nm 4) (.tup (.cons (.call 17 (.cons (.var 0) (.cons (.idx (.var 1) (.cint 0)) (.cons (.idx (.var 1) (.cint 1)) (.cons (.call 7 (.cons (.var 0) (.cons (.lst (.cons (.cint 0) (.cons (.cint 1) (.cons (.cint 3) (.cons (.cint 9) .nil))))) .nil))) .nil))))) (.cons (.call 17 (.cons (.var 0) (.cons (.idx (.var 1) (.cint 2)) (.cons (.idx (.var 1) (.cint 3)) (.cons (.call 7 (.cons (.var 0) (.cons (.lst (.cons (.cint 0) (.cons (.cint 1) (.cons (.cint 3) (.cons (.cint 9) .nil))))) .nil))) .nil))))) .nil)))) (.cons (.asg (.nm 5) (.call 6 (.cons (.var 0) (.cons (.cint 2) .nil)))) (.cons (.par [6, 7] (.cons (.idx (.var 1) (.bin .mul (.cint 2) (.var 5))) (.cons (.idx (.var 1) (.bin .add (.bin .mul (.cint 2) (.var 5)) (.cint 1))) .nil))) (.cons (.asg (.nm 8) (.call 7 (.cons (.var 0) (.cons (.lst (.cons (.bin .sub (.var 6) (.cint 1)) (.cons (.bin .add (.var 7) (.cint 1)) (.cons (.bin .sub (.var 6) (.cint 1)) (.cons (.bin .add (.var 7) (.cint 1)) (.cons (.cbl true) (.cons (.cbl false) (.cons (.cstr (PySem.Str.ofString "")) (.cons (.cstr (PySem.Str.ofString "1")) (.cons (.tup .nil) (.cons (.tup (.cons (.var 6) .nil)) (.cons (.neg (.cint 1)) (.cons (.bin .pow (.cint 10) (.cint 39)) .nil))))))))))))) .nil)))) (.cons (.asg (.nm 9) (.call 6 (.cons (.var 0) (.cons (.bin .add (.prim .len (.cons (.idx (.var 4) (.var 5)) .nil)) (.cint 1)) .nil)))) (.cons (.asg (.nm 2) (.bin .add (.var 2) (.lst (.cons (.var 4) (.cons (.call 14 (.cons (.var 4) (.cons (.var 5) (.cons (.bin .add (.bin .add (.slc (.idx (.var 4) (.var 5)) (.absent) (.var 9)) (.tup (.cons (.var 8) .nil))) (.slc (.idx (.var 4) (.var 5)) (.var 9) (.absent))) .nil)))) .nil))))) (.cons (.expr (.meth .append (.var 2) (.cons (.call 14 (.cons (.idx (.var 2) (.neg (.cint 1))) (.cons (.bin .sub (.cint 1) (.var 5)) (.cons (.bin .add (.idx (.var 4) (.bin .sub (.cint 1) (.var 5))) (.tup (.cons (.call 7 (.cons (.var 0) (.cons (.lst (.cons (.cint 0) (.cons (.cbl true) (.cons (.cstr (PySem.Str.ofString "x")) .nil)))) .nil))) .nil))) .nil)))) .nil))) .nil)))))))) (.cons (.par [10, 11] (.cons (.bin .mul (.tup (.cons (.idx (.var 1) (.cint 0)) .nil)) (.cint 400)) (.cons (.bin .mul (.tup (.cons (.idx (.var 1) (.cint 2)) .nil)) (.cint 400)) .nil))) (.cons (.ret (.bin .add (.var 2) (.lst (.cons (.tup (.cons (.var 10) (.cons (.var 11) .nil))) (.cons (.tup (.cons (.bin .add (.var 10) (.tup (.cons (.cnon) .nil))) (.cons (.tup .nil) .nil))) (.cons (.tup (.cons (.tup .nil) (.cons (.bin .add (.var 11) (.tup (.cons (.cnon) .nil))) .nil))) (.cons (.tup (.cons (.bin .add (.var 10) (.tup (.cons (.cnon) .nil))) (.cons (.bin .add (.var 11) (.tup (.cons (.cint 0) .nil))) .nil))) (.cons (.tup (.cons (.var 11) (.cons (.var 10) .nil))) .nil)))))))) .nil)))
def b__law_seen_data : Ss := .cons (.tryx (.cons (.retx (.cint 0) (.var 1) 23 (.cons (.var 0) .nil) [0] (.cons (.var 0) .nil)) .nil)) .nil
def b__law_seen_course : Ss := .cons (.tryx (.cons (.retx (.cint 0) (.var 2) 24 (.cons (.var 1) (.cons (.var 0) .nil)) [1, 0] (.cons (.var 0) (.cons (.var 1) .nil))) .nil)) .nil
def b__law_is_due : Ss := .cons (.ite (.cmp .isN (.var 2) (.cnon)) (.cons (.ret (.and (.cons (.isin .int (.idx (.var 0) (.cint 0))) (.cons (.cmp .isN (.idx (.var 0) (.cint 1)) (.cnon)) .nil)))) .nil) .nil) (.cons (.ite (.or (.cons (.isin .bool (.idx (.var 0) (.cint 1))) (.cons (.not (.isin .int (.idx (.var 0) (.cint 1)))) (.cons (.not (.isin .str (.idx (.var 0) (.cint 0)))) .nil)))) (.cons (.ret (.cbl false)) .nil) .nil) (.cons (.ret (.cmp .eq (.var 0) (.tup (.cons (.var 1) (.cons (.var 2) .nil))))) .nil))
def b_law : Ss := .cons (.asg (.nm 1) (.call 5 (.cons (.var 0) .nil))) (.cons (.asg (.nm 2) (.call 16 (.cons (.var 1) .nil))) (.cons (.fo (.nm 3) (.range1 (.prim .len (.cons (.var 2) .nil))) (.cons (.ite (.not (.call 21 (.cons (.call 19 (.cons (.idx (.var 2) (.var 3)) (.cons (.cmp .eq (.bin .mod (.prim .int (.cons (.var 3) .nil)) (.cint 2)) (.cint 0)) .nil))) (.cons (.cstr (PySem.Str.ofString "data")) (.cons (.call 10 (.cons (.idx (.var 2) (.var 3)) .nil)) .nil))))) (.cons (.ret (.cbl false)) .nil) .nil) .nil)) (.cons (.par [4, 5] (.cons (.call 7 (.cons (.var 1) (.cons (.lst (.cons (.cint 1) (.cons (.cint 2) (.cons (.cint 9) (.cons (.cint 990) .nil))))) .nil))) (.cons (.call 7 (.cons (.var 1) (.cons (.lst (.cons (.cint 1) (.cons (.cint 3) (.cons (.cint 7) (.cons (.cint 1000) .nil))))) .nil))) .nil))) (.cons (.asg (.nm 6) (.tup (.cons (.var 4) (.cons (.bin .add (.var 4) (.call 7 (.cons (.var 1) (.cons (.lst (.cons (.cint 0) (.cons (.cint 1) (.cons (.cint 10) .nil)))) .nil)))) (.cons (.var 5) (.cons (.prim .min (.cons (.cint 1000) (.cons (.bin .add (.var 5) (.call 7 (.cons (.var 1) (.cons (.lst (.cons (.cint 0) (.cons (.cint 1) (.cons (.cint 5) .nil)))) .nil)))) .nil))) .nil)))))) (.cons (.asg (.nm 2) (.call 18 (.cons (.var 1) (.cons (.var 6) .nil)))) (.cons (.fo (.nm 3) (.range1 (.prim .len (.cons (.var 2) .nil))) (.cons (.ite (.not (.call 21 (.cons (.call 20 (.cons (.idx (.var 2) (.var 3)) (.cons (.var 6) (.cons (.cmp .eq (.bin .mod (.prim .int (.cons (.var 3) .nil)) (.cint 2)) (.cint 1)) .nil)))) (.cons (.cstr (PySem.Str.ofString "course")) (.cons (.call 11 (.cons (.idx (.var 2) (.var 3)) (.cons (.var 6) .nil))) .nil))))) (.cons (.ret (.cbl false)) .nil) .nil) .nil)) (.cons (.ret (.cbl true)) .nil)))))))
def b_check_data : Ss := .cons (.ite (.or (.cons (.not (.isin .tuple (.var 0))) (.cons (.not (.var 0)) .nil))) (.cons (.ret (.tup (.cons (.cstr (PySem.Str.ofString "data")) (.cons (.neg (.cint 1)) .nil)))) .nil) .nil) (.cons (.asg (.nm 1) (.cint 0)) (.cons (.fo (.tp (.cons (.nm 2) (.cons (.nm 3) .nil))) (.enum (.var 0)) (.cons (.ite (.or (.cons (.cmp .gt (.var 2) (.cint 2)) (.cons (.not (.call 3 (.cons (.var 3) .nil))) .nil))) (.cons (.ret (.tup (.cons (.cstr (PySem.Str.ofString "data")) (.cons (.var 2) .nil)))) .nil) .nil) (.cons (.aug 1 .add (.prim .len (.cons (.idx (.var 3) (.cint 0)) .nil))) (.cons (.ite (.cmp .gt (.var 1) (.gcon (PySem.Str.ofString "MOST_LETTERS") (.int 60))) (.cons (.ret (.tup (.cons (.cstr (PySem.Str.ofString "data")) (.cons (.var 2) .nil)))) .nil) .nil) .nil)))) .nil))
def b_check_course : Ss := .cons (.ite (.or (.cons (.not (.call 1 (.cons (.var 0) (.cons (.cint 2) .nil)))) (.cons (.not (.isin .tuple (.idx (.var 0) (.cint 0)))) (.cons (.not (.isin .tuple (.idx (.var 0) (.cint 1)))) .nil)))) (.cons (.ret (.tup (.cons (.cstr (PySem.Str.ofString "course")) (.cons (.neg (.cint 1)) .nil)))) .nil) .nil) (.cons (.fo (.tp (.cons (.nm 2) (.cons (.nm 3) .nil))) (.enum (.var 0)) (.cons (.ite (.or (.cons (.cmp .gt (.prim .len (.cons (.var 3) .nil)) (.gcon (PySem.Str.ofString "MOST_FATES") (.int 400))) (.cons (.not (.qual true (.call 4 (.cons (.var 1) (.cons (.var 2) (.cons (.var 4) .nil)))) (.nm 4) (.seq (.var 3)) .nil [4])) .nil))) (.cons (.ret (.tup (.cons (.cstr (PySem.Str.ofString "course")) (.cons (.var 2) .nil)))) .nil) .nil) .nil)) .nil)
/-! ### the defs -/
def i_is_whole : Nat := 0
def d_is_whole : Def := ⟨PySem.Str.ofString "is_whole", PySem.Str.ofString "is_whole", topS 4, [PySem.Str.ofString "value"], [PySem.Str.ofString "value"], ⟨1, 1, b_is_whole, true⟩, false⟩
def i_is_tuple : Nat := 1
def d_is_tuple : Def := ⟨PySem.Str.ofString "is_tuple", PySem.Str.ofString "is_tuple", topS 5, [PySem.Str.ofString "value", PySem.Str.ofString "many"], [PySem.Str.ofString "value", PySem.Str.ofString "many"], ⟨2, 2, b_is_tuple, true⟩, false⟩
def i_is_number : Nat := 2
def d_is_number : Def := ⟨PySem.Str.ofString "is_number", PySem.Str.ofString "is_number", topS 6, [PySem.Str.ofString "value", PySem.Str.ofString "low", PySem.Str.ofString "high"], [PySem.Str.ofString "value", PySem.Str.ofString "low", PySem.Str.ofString "high"], ⟨3, 3, b_is_number, true⟩, false⟩
def i_is_stream : Nat := 3
def d_is_stream : Def := ⟨PySem.Str.ofString "is_stream", PySem.Str.ofString "is_stream", topS 11, [PySem.Str.ofString "value", PySem.Str.ofString "low", PySem.Str.ofString "high", PySem.Str.ofString "tick"], [PySem.Str.ofString "value"], ⟨1, 4, b_is_stream, true⟩, true⟩
def i_is_fate : Nat := 4
def d_is_fate : Def := ⟨PySem.Str.ofString "is_fate", PySem.Str.ofString "is_fate", topS 13, [PySem.Str.ofString "road", PySem.Str.ofString "side", PySem.Str.ofString "value"], [PySem.Str.ofString "road", PySem.Str.ofString "side", PySem.Str.ofString "value"], ⟨3, 3, b_is_fate, true⟩, false⟩
def i__law_bag : Nat := 5
def d__law_bag : Def := ⟨PySem.Str.ofString "_law_bag", PySem.Str.ofString "_law_bag", topS 16, [PySem.Str.ofString "script", PySem.Str.ofString "cells", PySem.Str.ofString "great", PySem.Str.ofString "cell"], [PySem.Str.ofString "script"], ⟨1, 4, b__law_bag, false⟩, false⟩
def i__law_draw : Nat := 6
def d__law_draw : Def := ⟨PySem.Str.ofString "_law_draw", PySem.Str.ofString "_law_draw", topS 17, [PySem.Str.ofString "bag", PySem.Str.ofString "many", PySem.Str.ofString "digit", PySem.Str.ofString "cell", PySem.Str.ofString "mixed"], [PySem.Str.ofString "bag", PySem.Str.ofString "many"], ⟨2, 5, b__law_draw, false⟩, false⟩
def i__law_pick : Nat := 7
def d__law_pick : Def := ⟨PySem.Str.ofString "_law_pick", PySem.Str.ofString "_law_pick", topS 18, [PySem.Str.ofString "bag", PySem.Str.ofString "some"], [PySem.Str.ofString "bag", PySem.Str.ofString "some"], ⟨2, 2, b__law_pick, false⟩, false⟩
def i__law_is_number : Nat := 8
def d__law_is_number : Def := ⟨PySem.Str.ofString "_law_is_number", PySem.Str.ofString "_law_is_number", topS 19, [PySem.Str.ofString "value", PySem.Str.ofString "low", PySem.Str.ofString "high"], [PySem.Str.ofString "value", PySem.Str.ofString "low", PySem.Str.ofString "high"], ⟨3, 3, b__law_is_number, true⟩, false⟩
def i__law_is_stream : Nat := 9
def d__law_is_stream : Def := ⟨PySem.Str.ofString "_law_is_stream", PySem.Str.ofString "_law_is_stream", topS 20, [PySem.Str.ofString "value", PySem.Str.ofString "before", PySem.Str.ofString "tick"], [PySem.Str.ofString "value"], ⟨1, 3, b__law_is_stream, true⟩, false⟩
def i__law_data_fault : Nat := 10
def d__law_data_fault : Def := ⟨PySem.Str.ofString "_law_data_fault", PySem.Str.ofString "_law_data_fault", topS 21, [PySem.Str.ofString "value", PySem.Str.ofString "letters", PySem.Str.ofString "n"], [PySem.Str.ofString "value"], ⟨1, 3, b__law_data_fault, true⟩, false⟩
def i__law_course_fault : Nat := 11
def d__law_course_fault : Def := ⟨PySem.Str.ofString "_law_course_fault", PySem.Str.ofString "_law_course_fault", topS 22, [PySem.Str.ofString "value", PySem.Str.ofString "road", PySem.Str.ofString "n", PySem.Str.ofString "fate"], [PySem.Str.ofString "value", PySem.Str.ofString "road"], ⟨2, 4, b__law_course_fault, true⟩, false⟩
def i__law_stream_of : Nat := 12
def d__law_stream_of : Def := ⟨PySem.Str.ofString "_law_stream_of", PySem.Str.ofString "_law_stream_of", topS 23, [PySem.Str.ofString "bag", PySem.Str.ofString "many", PySem.Str.ofString "ticks", PySem.Str.ofString "k"], [PySem.Str.ofString "bag", PySem.Str.ofString "many"], ⟨2, 4, b__law_stream_of, true⟩, false⟩
def i__law_data_of : Nat := 13
def d__law_data_of : Def := ⟨PySem.Str.ofString "_law_data_of", PySem.Str.ofString "_law_data_of", topS 24, [PySem.Str.ofString "bag", PySem.Str.ofString "streams", PySem.Str.ofString "many", PySem.Str.ofString "k", PySem.Str.ofString "number"], [PySem.Str.ofString "bag"], ⟨1, 5, b__law_data_of, true⟩, false⟩
def i__law_exchanged : Nat := 14
def d__law_exchanged : Def := ⟨PySem.Str.ofString "_law_exchanged", PySem.Str.ofString "_law_exchanged", topS 25, [PySem.Str.ofString "row", PySem.Str.ofString "n", PySem.Str.ofString "new"], [PySem.Str.ofString "row", PySem.Str.ofString "n", PySem.Str.ofString "new"], ⟨3, 3, b__law_exchanged, false⟩, false⟩
def i__law_spoilt_stream : Nat := 15
def d__law_spoilt_stream : Def := ⟨PySem.Str.ofString "_law_spoilt_stream", PySem.Str.ofString "_law_spoilt_stream", topS 26, [PySem.Str.ofString "bag", PySem.Str.ofString "stream", PySem.Str.ofString "way", PySem.Str.ofString "ticks", PySem.Str.ofString "k"], [PySem.Str.ofString "bag", PySem.Str.ofString "stream"], ⟨2, 5, b__law_spoilt_stream, true⟩, false⟩
def i__law_data_values : Nat := 16
def d__law_data_values : Def := ⟨PySem.Str.ofString "_law_data_values", PySem.Str.ofString "_law_data_values", topS 27, [PySem.Str.ofString "bag", PySem.Str.ofString "found", PySem.Str.ofString "turn", PySem.Str.ofString "data", PySem.Str.ofString "k", PySem.Str.ofString "one", PySem.Str.ofString "sixty"], [PySem.Str.ofString "bag"], ⟨1, 7, b__law_data_values, false⟩, false⟩
def i__law_fates_of : Nat := 17
def d__law_fates_of : Def := ⟨PySem.Str.ofString "_law_fates_of", PySem.Str.ofString "_law_fates_of", topS 28, [PySem.Str.ofString "bag", PySem.Str.ofString "low", PySem.Str.ofString "high", PySem.Str.ofString "many", PySem.Str.ofString "k"], [PySem.Str.ofString "bag", PySem.Str.ofString "low", PySem.Str.ofString "high", PySem.Str.ofString "many"], ⟨4, 5, b__law_fates_of, true⟩, false⟩
def i__law_course_values : Nat := 18
def d__law_course_values : Def := ⟨PySem.Str.ofString "_law_course_values", PySem.Str.ofString "_law_course_values", topS 29, [PySem.Str.ofString "bag", PySem.Str.ofString "road", PySem.Str.ofString "found", PySem.Str.ofString "turn", PySem.Str.ofString "course", PySem.Str.ofString "n", PySem.Str.ofString "low", PySem.Str.ofString "high", PySem.Str.ofString "new", PySem.Str.ofString "k", PySem.Str.ofString "row", PySem.Str.ofString "other"], [PySem.Str.ofString "bag", PySem.Str.ofString "road"], ⟨2, 12, b__law_course_values, false⟩, false⟩
def i__law_seen_data : Nat := 19
def d__law_seen_data : Def := ⟨PySem.Str.ofString "_law_seen_data", PySem.Str.ofString "_law_seen_data", topS 30, [PySem.Str.ofString "value", PySem.Str.ofString "by_name", PySem.Str.ofString "e"], [PySem.Str.ofString "value", PySem.Str.ofString "by_name"], ⟨2, 3, b__law_seen_data, true⟩, false⟩
def i__law_seen_course : Nat := 20
def d__law_seen_course : Def := ⟨PySem.Str.ofString "_law_seen_course", PySem.Str.ofString "_law_seen_course", topS 31, [PySem.Str.ofString "value", PySem.Str.ofString "road", PySem.Str.ofString "by_name", PySem.Str.ofString "e"], [PySem.Str.ofString "value", PySem.Str.ofString "road", PySem.Str.ofString "by_name"], ⟨3, 4, b__law_seen_course, true⟩, false⟩
def i__law_is_due : Nat := 21
def d__law_is_due : Def := ⟨PySem.Str.ofString "_law_is_due", PySem.Str.ofString "_law_is_due", topS 32, [PySem.Str.ofString "seen", PySem.Str.ofString "word", PySem.Str.ofString "place"], [PySem.Str.ofString "seen", PySem.Str.ofString "word", PySem.Str.ofString "place"], ⟨3, 3, b__law_is_due, true⟩, false⟩
def i_law : Nat := 22
def d_law : Def := ⟨PySem.Str.ofString "law", PySem.Str.ofString "law", topS 33, [PySem.Str.ofString "script", PySem.Str.ofString "bag", PySem.Str.ofString "values", PySem.Str.ofString "k", PySem.Str.ofString "lo", PySem.Str.ofString "low", PySem.Str.ofString "road"], [PySem.Str.ofString "script"], ⟨1, 7, b_law, false⟩, false⟩
def i_check_data : Nat := 23
def d_check_data : Def := ⟨PySem.Str.ofString "check_data", PySem.Str.ofString "check_data", topS 12, [PySem.Str.ofString "value", PySem.Str.ofString "many", PySem.Str.ofString "number", PySem.Str.ofString "stream"], [PySem.Str.ofString "value"], ⟨1, 4, b_check_data, false⟩, false⟩
def i_check_course : Nat := 24
def d_check_course : Def := ⟨PySem.Str.ofString "check_course", PySem.Str.ofString "check_course", topS 14, [PySem.Str.ofString "value", PySem.Str.ofString "road", PySem.Str.ofString "number", PySem.Str.ofString "fates", PySem.Str.ofString "fate"], [PySem.Str.ofString "value", PySem.Str.ofString "road"], ⟨2, 5, b_check_course, false⟩, true⟩
def T : List Def := [d_is_whole, d_is_tuple, d_is_number, d_is_stream, d_is_fate, d__law_bag, d__law_draw, d__law_pick, d__law_is_number, d__law_is_stream, d__law_data_fault, d__law_course_fault, d__law_stream_of, d__law_data_of, d__law_exchanged, d__law_spoilt_stream, d__law_data_values, d__law_fates_of, d__law_course_values, d__law_seen_data, d__law_seen_course, d__law_is_due, d_law, d_check_data, d_check_course]
def bl : List Str := [PySem.Str.ofString "isinstance", PySem.Str.ofString "bool", PySem.Str.ofString "int", PySem.Str.ofString "len", PySem.Str.ofString "tuple", PySem.Str.ofString "any", PySem.Str.ofString "zip", PySem.Str.ofString "all", PySem.Str.ofString "abs", PySem.Str.ofString "range", PySem.Str.ofString "sorted", PySem.Str.ofString "sum", PySem.Str.ofString "str", PySem.Str.ofString "min", PySem.Str.ofString "enumerate"]
def kw : Kws := [(23, 0, [PySem.Str.ofString "value"], [0]), (24, 0, [PySem.Str.ofString "road", PySem.Str.ofString "value"], [1, 0])]
def co : Cos := [(PySem.Str.ofString "MOST_TICK", .int 100000), (PySem.Str.ofString "MOST_LETTERS", .int 60), (PySem.Str.ofString "MOST_FATES", .int 400)]
noncomputable abbrev P : Prg := prg T
end LW
namespace LW
abbrev LV : Nat := 28
end LW
namespace LW
open PySem PySem.Spec PyProof.Rows L2 SX
theorem s_is_whole : DefX T 23 bl kw co 0 d_is_whole := ⟨⟨rfl, rfl, rfl, by decide +kernel, rfl, by decide +kernel, by decide +kernel⟩, by decide +kernel⟩
theorem s_is_tuple : DefX T 23 bl kw co 1 d_is_tuple := ⟨⟨rfl, rfl, rfl, by decide +kernel, rfl, by decide +kernel, by decide +kernel⟩, by decide +kernel⟩
theorem s_is_number : DefX T 23 bl kw co 2 d_is_number := ⟨⟨rfl, rfl, rfl, by decide +kernel, rfl, by decide +kernel, by decide +kernel⟩, by decide +kernel⟩
theorem s_is_stream : DefX T 23 bl kw co 3 d_is_stream := ⟨⟨rfl, rfl, rfl, by decide +kernel, rfl, by decide +kernel, by decide +kernel⟩, by decide +kernel⟩
theorem s_is_fate : DefX T 23 bl kw co 4 d_is_fate := ⟨⟨rfl, rfl, rfl, by decide +kernel, rfl, by decide +kernel, by decide +kernel⟩, by decide +kernel⟩
theorem s__law_bag : DefX T 23 bl kw co 5 d__law_bag := ⟨⟨rfl, rfl, rfl, by decide +kernel, rfl, by decide +kernel, by decide +kernel⟩, by decide +kernel⟩
theorem s__law_draw : DefX T 23 bl kw co 6 d__law_draw := ⟨⟨rfl, rfl, rfl, by decide +kernel, rfl, by decide +kernel, by decide +kernel⟩, by decide +kernel⟩
theorem s__law_pick : DefX T 23 bl kw co 7 d__law_pick := ⟨⟨rfl, rfl, rfl, by decide +kernel, rfl, by decide +kernel, by decide +kernel⟩, by decide +kernel⟩
theorem s__law_is_number : DefX T 23 bl kw co 8 d__law_is_number := ⟨⟨rfl, rfl, rfl, by decide +kernel, rfl, by decide +kernel, by decide +kernel⟩, by decide +kernel⟩
theorem s__law_is_stream : DefX T 23 bl kw co 9 d__law_is_stream := ⟨⟨rfl, rfl, rfl, by decide +kernel, rfl, by decide +kernel, by decide +kernel⟩, by decide +kernel⟩
theorem s__law_data_fault : DefX T 23 bl kw co 10 d__law_data_fault := ⟨⟨rfl, rfl, rfl, by decide +kernel, rfl, by decide +kernel, by decide +kernel⟩, by decide +kernel⟩
theorem s__law_course_fault : DefX T 23 bl kw co 11 d__law_course_fault := ⟨⟨rfl, rfl, rfl, by decide +kernel, rfl, by decide +kernel, by decide +kernel⟩, by decide +kernel⟩
theorem s__law_stream_of : DefX T 23 bl kw co 12 d__law_stream_of := ⟨⟨rfl, rfl, rfl, by decide +kernel, rfl, by decide +kernel, by decide +kernel⟩, by decide +kernel⟩
theorem s__law_data_of : DefX T 23 bl kw co 13 d__law_data_of := ⟨⟨rfl, rfl, rfl, by decide +kernel, rfl, by decide +kernel, by decide +kernel⟩, by decide +kernel⟩
theorem s__law_exchanged : DefX T 23 bl kw co 14 d__law_exchanged := ⟨⟨rfl, rfl, rfl, by decide +kernel, rfl, by decide +kernel, by decide +kernel⟩, by decide +kernel⟩
theorem s__law_spoilt_stream : DefX T 23 bl kw co 15 d__law_spoilt_stream := ⟨⟨rfl, rfl, rfl, by decide +kernel, rfl, by decide +kernel, by decide +kernel⟩, by decide +kernel⟩
theorem s__law_data_values : DefX T 23 bl kw co 16 d__law_data_values := ⟨⟨rfl, rfl, rfl, by decide +kernel, rfl, by decide +kernel, by decide +kernel⟩, by decide +kernel⟩
theorem s__law_fates_of : DefX T 23 bl kw co 17 d__law_fates_of := ⟨⟨rfl, rfl, rfl, by decide +kernel, rfl, by decide +kernel, by decide +kernel⟩, by decide +kernel⟩
theorem s__law_course_values : DefX T 23 bl kw co 18 d__law_course_values := ⟨⟨rfl, rfl, rfl, by decide +kernel, rfl, by decide +kernel, by decide +kernel⟩, by decide +kernel⟩
theorem s__law_seen_data : DefX T 23 bl kw co 19 d__law_seen_data := ⟨⟨rfl, rfl, rfl, by decide +kernel, rfl, by decide +kernel, by decide +kernel⟩, by decide +kernel⟩
theorem s__law_seen_course : DefX T 23 bl kw co 20 d__law_seen_course := ⟨⟨rfl, rfl, rfl, by decide +kernel, rfl, by decide +kernel, by decide +kernel⟩, by decide +kernel⟩
theorem s__law_is_due : DefX T 23 bl kw co 21 d__law_is_due := ⟨⟨rfl, rfl, rfl, by decide +kernel, rfl, by decide +kernel, by decide +kernel⟩, by decide +kernel⟩
theorem s_law : DefX T 23 bl kw co 22 d_law := ⟨⟨rfl, rfl, rfl, by decide +kernel, rfl, by decide +kernel, by decide +kernel⟩, by decide +kernel⟩
theorem s_check_data : DefX T 23 bl kw co 23 d_check_data := ⟨⟨rfl, rfl, rfl, by decide +kernel, rfl, by decide +kernel, by decide +kernel⟩, by decide +kernel⟩
theorem s_check_course : DefX T 23 bl kw co 24 d_check_course := ⟨⟨rfl, rfl, rfl, by decide +kernel, rfl, by decide +kernel, by decide +kernel⟩, by decide +kernel⟩
theorem hs : ∀ (f : Nat) (d : Def), T[f]? = some d → DefX T 23 bl kw co f d := xall_get (⟨s_is_whole, ⟨s_is_tuple, ⟨s_is_number, ⟨s_is_stream, ⟨s_is_fate, ⟨s__law_bag, ⟨s__law_draw, ⟨s__law_pick, ⟨s__law_is_number, ⟨s__law_is_stream, ⟨s__law_data_fault, ⟨s__law_course_fault, ⟨s__law_stream_of, ⟨s__law_data_of, ⟨s__law_exchanged, ⟨s__law_spoilt_stream, ⟨s__law_data_values, ⟨s__law_fates_of, ⟨s__law_course_values, ⟨s__law_seen_data, ⟨s__law_seen_course, ⟨s__law_is_due, ⟨s_law, ⟨s_check_data, ⟨s_check_course, True.intro⟩⟩⟩⟩⟩⟩⟩⟩⟩⟩⟩⟩⟩⟩⟩⟩⟩⟩⟩⟩⟩⟩⟩⟩⟩)
end LW
namespace LW
open PySem PySem.Spec PyProof.Rows L2 SX
noncomputable section
open Classical
local macro_rules | `(tactic| walk_at "ev") => `(tactic| simp (config := { maxSteps := 3000000 }) (disch := first | assumption | omega | exact ⟨by omega, by omega⟩ | exact ⟨⟨by omega, by omega⟩, ⟨by omega, by omega⟩⟩ | exact Nat.le_of_ble_eq_true rfl | decide) only [bnd_ok, bnd_bad, binJ_eq, binK_eq, notK_eq, cmpJ_eq, cmpK_eq, idxJ_eq, idxK_eq, calJ_eq, clkJ_eq, clkK_eq, priJ_eq, isiJ_eq, metJ_eq, metI_t, metK_eq, lcJ_eq, lcK_eq, conJ_eq, conK_eq, andJ_eq, orJ_eq, rg2J_eq, nxtK_eq, setI1_eq, setI2_eq, setI3_eq, retK_eq,  vE_var, varK_ok, vE_int, vE_bl, vE_non, vE_str, vE_tup, vE_lst, vE_bin, vE_neg, vE_not, vE_and, vE_or, vE_cmp, vE_ite, brE_t, brE_f, vE_idx, vE_slc, ab_c, ab_v, ab_b, ab_a, optI_int, if_ft, if_tt, s_tup, vE_call, vE_callk, vE_prim, vE_isin, vE_meth, vE_lc, vE_gcon, toD_int, toD_strs, vE_chain, chnI_eq, chnK_eq, chnJ_t, chnJ_f, vE_tupG, tgJ_eq, tgK_eq, vE_qual, qlK_eq, vE_sumG, smK_eq, vE_lc2, l2K_eq, vEs_nil, vEs_cons, vA_one, vA_cons, vO_one, vO_cons, andK_t, andK_f, orK_t, orK_f, vT_nil, vT_cons, vI_seq, seqK_tup, seqK_rls, seqK_loc, seqL_ok, vI_enum, enK_eq, vI_zip, zpJ_eq, zpK_eq, vI_range1, rg1_int, vI_range2, rg2_int,
  xS_asg, asgK_nm, asgT_nm, asgT_tp2, asgT_tp3, asgK_tp2, asgK_tp3, xS_par, parK_2, parK_3, xS_setS, xS_aug, augV_ok, augK_add, augK_sub, xS_augS, agR_some, agD_eq, agX_eq, agI_eq, agO_eq, idxM_loc, augD_add, augD_sub, xS_expr, xS_ret, xS_retN, xS_ite, brS_t, brS_f, xS_wh, whB_t, whB_f, whK_n, whK_c, whK_b, whK_r, xS_fo, foT_some, foK_n, foK_c, foK_b, foK_r, xS_brk, xS_cont, xS_pass, xS_callx, flX_non, flX_tup, xS_tryx, xS_retx, rtX_non, rtX_tup, xSs_nil, xSs_cons, sqK_n, sqK_r, sqK_b, sqK_c,
  b_add, b_sub, b_mul, b_mulL, b_mulR, b_fdiv, b_mod, b_pow, b_addT, b_addL, addL_ok, b_repT, k_lt, k_le, k_gt, k_ge, k_eq, k_ne, k_isN, k_notN, k_in, k_nin, tr_str, q_int, q_bl, q_str, ofB_some, Option.map_some, tr_bl, tr_int, tr_non, tr_tup, tr_loc, trK_ok, td_bl, td_int, td_tup, i_tup, i_rls, i_loc, idxL_ok, okV_some, at0, at1, at2, at3, at_m1, tupK_ok, lstK_ok, negK_int, p_abs, p_int, p_intB, p_lenT, p_lenR, p_lenL, lenL_ok, p_sorted, p_sum, intsL_ok, allInt_map, srtI_ok, smI_ok, p_max, p_min, p_tupT, p_tupL, tupL_ok, p_lstT, p_lstL, lstL_ok, isD_ok, m_app, appL_ok, m_pop, popL_ok, m_rev, revL_ok, recv_ok, recvL_ok, set_loc, setL_ok, setI_ok, new_eq, Bool.not_true, Bool.not_false, if_true, eq_self, decide_true, decide_false,
  List.set_cons_zero, List.set_cons_succ, List.getElem?_cons_zero, List.getElem?_cons_succ, List.length_cons, List.length_nil, Option.some.injEq])
local macro_rules | `(tactic| walk_at "ev*") => `(tactic| simp (config := { maxSteps := 3000000 }) (disch := first | assumption | omega | exact ⟨by omega, by omega⟩ | exact ⟨⟨by omega, by omega⟩, ⟨by omega, by omega⟩⟩ | exact Nat.le_of_ble_eq_true rfl | decide) only [bnd_ok, bnd_bad, binJ_eq, binK_eq, notK_eq, cmpJ_eq, cmpK_eq, idxJ_eq, idxK_eq, calJ_eq, clkJ_eq, clkK_eq, priJ_eq, isiJ_eq, metJ_eq, metI_t, metK_eq, lcJ_eq, lcK_eq, conJ_eq, conK_eq, andJ_eq, orJ_eq, rg2J_eq, nxtK_eq, setI1_eq, setI2_eq, setI3_eq, retK_eq,  vE_var, varK_ok, vE_int, vE_bl, vE_non, vE_str, vE_tup, vE_lst, vE_bin, vE_neg, vE_not, vE_and, vE_or, vE_cmp, vE_ite, brE_t, brE_f, vE_idx, vE_slc, ab_c, ab_v, ab_b, ab_a, optI_int, if_ft, if_tt, s_tup, vE_call, vE_callk, vE_prim, vE_isin, vE_meth, vE_lc, vE_gcon, toD_int, toD_strs, vE_chain, chnI_eq, chnK_eq, chnJ_t, chnJ_f, vE_tupG, tgJ_eq, tgK_eq, vE_qual, qlK_eq, vE_sumG, smK_eq, vE_lc2, l2K_eq, vEs_nil, vEs_cons, vA_one, vA_cons, vO_one, vO_cons, andK_t, andK_f, orK_t, orK_f, vT_nil, vT_cons, vI_seq, seqK_tup, seqK_rls, seqK_loc, seqL_ok, vI_enum, enK_eq, vI_zip, zpJ_eq, zpK_eq, vI_range1, rg1_int, vI_range2, rg2_int,
  xS_asg, asgK_nm, asgT_nm, asgT_tp2, asgT_tp3, asgK_tp2, asgK_tp3, xS_par, parK_2, parK_3, xS_setS, xS_aug, augV_ok, augK_add, augK_sub, xS_augS, agR_some, agD_eq, agX_eq, agI_eq, agO_eq, idxM_loc, augD_add, augD_sub, xS_expr, xS_ret, xS_retN, xS_ite, brS_t, brS_f, xS_wh, whB_t, whB_f, whK_n, whK_c, whK_b, whK_r, xS_fo, foT_some, foK_n, foK_c, foK_b, foK_r, xS_brk, xS_cont, xS_pass, xS_callx, flX_non, flX_tup, xS_tryx, xS_retx, rtX_non, rtX_tup, xSs_nil, xSs_cons, sqK_n, sqK_r, sqK_b, sqK_c,
  b_add, b_sub, b_mul, b_mulL, b_mulR, b_fdiv, b_mod, b_pow, b_addT, b_addL, addL_ok, b_repT, k_lt, k_le, k_gt, k_ge, k_eq, k_ne, k_isN, k_notN, k_in, k_nin, tr_str, q_int, q_bl, q_str, ofB_some, Option.map_some, tr_bl, tr_int, tr_non, tr_tup, tr_loc, trK_ok, td_bl, td_int, td_tup, i_tup, i_rls, i_loc, idxL_ok, okV_some, at0, at1, at2, at3, at_m1, tupK_ok, lstK_ok, negK_int, p_abs, p_int, p_intB, p_lenT, p_lenR, p_lenL, lenL_ok, p_sorted, p_sum, intsL_ok, allInt_map, srtI_ok, smI_ok, p_max, p_min, p_tupT, p_tupL, tupL_ok, p_lstT, p_lstL, lstL_ok, isD_ok, m_app, appL_ok, m_pop, popL_ok, m_rev, revL_ok, recv_ok, recvL_ok, set_loc, setL_ok, setI_ok, new_eq, Bool.not_true, Bool.not_false, if_true, eq_self, decide_true, decide_false,
  List.set_cons_zero, List.set_cons_succ, List.getElem?_cons_zero, List.getElem?_cons_succ, List.length_cons, List.length_nil, Option.some.injEq, *])
local macro_rules | `(tactic| walk_at "evs") => `(tactic| simp (config := { maxSteps := 3000000 }) (disch := first | assumption | omega | exact ⟨by omega, by omega⟩ | exact ⟨⟨by omega, by omega⟩, ⟨by omega, by omega⟩⟩ | exact Nat.le_of_ble_eq_true rfl | decide) only [bnd_ok, bnd_bad, binJ_eq, binK_eq, notK_eq, cmpJ_eq, cmpK_eq, idxJ_eq, idxK_eq, calJ_eq, clkJ_eq, clkK_eq, priJ_eq, isiJ_eq, metJ_eq, metI_t, metK_eq, lcJ_eq, lcK_eq, conJ_eq, conK_eq, andJ_eq, orJ_eq, rg2J_eq, nxtK_eq, setI1_eq, setI2_eq, setI3_eq, retK_eq,  vE_var, varK_ok, vE_int, vE_bl, vE_non, vE_str, vE_tup, vE_lst, vE_bin, vE_neg, vE_not, vE_and, vE_or, vE_cmp, vE_ite, brE_t, brE_f, vE_idx, vE_slc, ab_c, ab_v, ab_b, ab_a, optI_int, if_ft, if_tt, s_tup, vE_call, vE_callk, vE_prim, vE_isin, vE_meth, vE_lc, vE_gcon, toD_int, toD_strs, vE_chain, chnI_eq, chnK_eq, chnJ_t, chnJ_f, vE_tupG, tgJ_eq, tgK_eq, vE_qual, qlK_eq, vE_sumG, smK_eq, vE_lc2, l2K_eq, vEs_nil, vEs_cons, vA_one, vA_cons, vO_one, vO_cons, andK_t, andK_f, orK_t, orK_f, vT_nil, vT_cons, vI_seq, seqK_tup, seqK_rls, seqK_loc, seqL_ok, vI_enum, enK_eq, vI_zip, zpJ_eq, zpK_eq, vI_range1, rg1_int, vI_range2, rg2_int,
  xS_asg, asgK_nm, asgT_nm, asgT_tp2, asgT_tp3, asgK_tp2, asgK_tp3, xS_par, parK_2, parK_3, xS_setS, xS_aug, augV_ok, augK_add, augK_sub, xS_augS, agR_some, agD_eq, agX_eq, agI_eq, agO_eq, idxM_loc, augD_add, augD_sub, xS_expr, xS_ret, xS_retN, xS_ite, brS_t, brS_f, xS_wh, whB_t, whB_f, whK_n, whK_c, whK_b, whK_r, xS_fo, foT_some, foK_n, foK_c, foK_b, foK_r, xS_brk, xS_cont, xS_pass, xS_callx, flX_non, flX_tup, xS_tryx, xS_retx, rtX_non, rtX_tup, xSs_nil, xSs_cons, sqK_n, sqK_r, sqK_b, sqK_c,
  b_add, b_sub, b_mul, b_mulL, b_mulR, b_fdiv, b_mod, b_pow, b_addT, b_addL, addL_ok, b_repT, k_lt, k_le, k_gt, k_ge, k_eq, k_ne, k_isN, k_notN, k_in, k_nin, tr_str, q_int, q_bl, q_str, ofB_some, Option.map_some, tr_bl, tr_int, tr_non, tr_tup, tr_loc, trK_ok, td_bl, td_int, td_tup, i_tup, i_rls, i_loc, idxL_ok, okV_some, at0, at1, at2, at3, at_m1, tupK_ok, lstK_ok, negK_int, p_abs, p_int, p_intB, p_lenT, p_lenR, p_lenL, lenL_ok, p_sorted, p_sum, intsL_ok, allInt_map, srtI_ok, smI_ok, p_max, p_min, p_tupT, p_tupL, tupL_ok, p_lstT, p_lstL, lstL_ok, isD_ok, m_app, appL_ok, m_pop, popL_ok, m_rev, revL_ok, recv_ok, recvL_ok, set_loc, setL_ok, setI_ok, new_eq, Bool.not_true, Bool.not_false, if_true, eq_self, decide_true, decide_false,
  List.set_cons_zero, List.set_cons_succ, List.getElem?_cons_zero, List.getElem?_cons_succ, List.length_cons, List.length_nil, Option.some.injEq, List.cons_append, List.nil_append, List.append_assoc, Nat.reduceAdd, st_get, st_get0, st_set, st_set0, List.length_append, Nat.add_zero, Nat.zero_add, *])

/-! ### numbers and tuples -/
def isI : D → Bool
  | .int _ => true
  | _ => false
def numD (v : D) (lo hi : Int) : Bool := match v with
  | .int i => decide (lo ≤ i) && decide (i ≤ hi)
  | _ => false
theorem isI_int {v : D} (h : isI v = true) : ∃ i, v = .int i := by cases v <;> first | exact ⟨_, rfl⟩ | cases h
theorem numD_not {v : D} (h : isI v = false) (lo hi : Int) : numD v lo hi = false := by cases v <;> first | rfl | cases h
theorem numD_int {v : D} {lo hi : Int} (h : numD v lo hi = true) : ∃ i, v = .int i ∧ lo ≤ i ∧ i ≤ hi := by
  cases v with
  | int i =>
    have h' : (decide (lo ≤ i) && decide (i ≤ hi)) = true := h
    simp only [Bool.and_eq_true, decide_eq_true_eq] at h'
    exact ⟨i, rfl, h'⟩
  | _ => cases h
theorem isI_k (v : D) : isI v = (isK .int (kdD v) && !isK .bool (kdD v)) := by cases v <;> rfl
theorem e_whole (n : Nat) (v : D) (S : Store) : callN P (n + 1) 0 [v] S = .ok (.bl (isI v)) S := by
  rw [callN_eq n _ _ (fd := ⟨1, 1, b_is_whole, true⟩) rfl rfl (Nat.le_of_ble_eq_true rfl)]
  refine end_pure (env := [some v]) ?_ rfl rfl
  show exSs (callN P n) b_is_whole [some v] S = _
  unfold b_is_whole
  rw [isI_k]
  cases h1 : isK .int (kdD v) <;> cases h2 : isK .bool (kdD v) <;> walk_at "ev*" <;> rfl
theorem e_num (n : Nat) (v : D) (lo hi : Int) (S : Store) : callN P (n + 2) 2 [v, .int lo, .int hi] S = .ok (.bl (numD v lo hi)) S := by
  rw [callN_eq (n + 1) _ _ (fd := ⟨3, 3, b_is_number, true⟩) rfl rfl (Nat.le_of_ble_eq_true rfl)]
  refine end_pure (env := [some v, some (.int lo), some (.int hi)]) ?_ rfl rfl
  show exSs (callN P (n + 1)) b_is_number [some v, some (.int lo), some (.int hi)] S = _
  unfold b_is_number
  have x1 := e_whole n v S
  cases h : isI v with
  | false =>
    rw [numD_not h]
    rw [h] at x1
    walk_at "ev*"
  | true =>
    obtain ⟨i, rfl⟩ := isI_int h
    rw [h] at x1
    show _ = Res.ok (Flow.ret (.bl (decide (lo ≤ i) && decide (i ≤ hi))), _) S
    cases c1 : decide (lo ≤ i) <;> cases c2 : decide (i ≤ hi) <;> walk_at "ev*" <;> rfl
theorem e_lnum (n : Nat) (v : D) (lo hi : Int) (S : Store) : callN P (n + 1) 8 [v, .int lo, .int hi] S = .ok (.bl (numD v lo hi)) S := by
  rw [callN_eq n _ _ (fd := ⟨3, 3, b__law_is_number, true⟩) rfl rfl (Nat.le_of_ble_eq_true rfl)]
  refine end_pure (env := [some v, some (.int lo), some (.int hi)]) ?_ rfl rfl
  show exSs (callN P n) b__law_is_number [some v, some (.int lo), some (.int hi)] S = _
  unfold b__law_is_number
  cases h : isI v with
  | false =>
    rw [numD_not h]
    rw [isI_k] at h
    cases h1 : isK .int (kdD v) <;> cases h2 : isK .bool (kdD v) <;> rw [h1, h2] at h <;> first | exact absurd h (by decide) | (clear h; walk_at "ev*")
  | true =>
    obtain ⟨i, rfl⟩ := isI_int h
    have h1 : isK .int (kdD (.int i)) = true := rfl
    have h2 : isK .bool (kdD (.int i)) = false := rfl
    show _ = Res.ok (Flow.ret (.bl (decide (lo ≤ i) && decide (i ≤ hi))), _) S
    clear h
    cases c1 : decide (lo ≤ i) <;> cases c2 : decide (i ≤ hi) <;> walk_at "ev*" <;> rfl
def tupN (v : D) (k : Int) : Bool := match v with
  | .tup ds => decide ((ds.length : Int) = k)
  | _ => false
theorem tupN_k {v : D} (h : isK .tuple (kdD v) = false) (k : Int) : tupN v k = false := by cases v <;> first | rfl | cases h
theorem tup_k {v : D} (h : isK .tuple (kdD v) = true) : ∃ ds, v = .tup ds := by cases v <;> first | exact ⟨_, rfl⟩ | cases h
theorem e_tup (n : Nat) (v : D) (k : Int) (S : Store) : callN P (n + 1) 1 [v, .int k] S = .ok (.bl (tupN v k)) S := by
  rw [callN_eq n _ _ (fd := ⟨2, 2, b_is_tuple, true⟩) rfl rfl (Nat.le_of_ble_eq_true rfl)]
  refine end_pure (env := [some v, some (.int k)]) ?_ rfl rfl
  show exSs (callN P n) b_is_tuple [some v, some (.int k)] S = _
  unfold b_is_tuple
  cases h : isK .tuple (kdD v) with
  | false =>
    rw [tupN_k h]
    walk_at "ev*"
  | true =>
    obtain ⟨ds, rfl⟩ := tup_k h
    show _ = Res.ok (Flow.ret (.bl (decide ((ds.length : Int) = k))), _) S
    walk_at "ev*"
/-! ### streams -/
def tkD (ts : List D) : Bool := ts.all fun d => numD d 0 100000
def riseD : List D → Bool
  | .int a :: .int b :: r => decide (a ≤ b) && riseD (.int b :: r)
  | _ => true
def headG (b : Int) : List D → Bool
  | .int i :: _ => decide (b ≤ i)
  | _ => true
def chD (b : Int) : List D → Bool
  | [] => true
  | .int i :: ds => (decide (b ≤ i) && decide (i ≤ 100000)) && chD i ds
  | _ :: _ => false
def strD (v : D) : Bool := match v with
  | .tup [.tup (t :: ts), b, c] => (tkD (t :: ts) && riseD (t :: ts)) && (numD b 1 60 && numD c 0 60)
  | _ => false
theorem ch_eq : ∀ (ts : List D) (b : Int), 0 ≤ b → chD b ts = ((tkD ts && riseD ts) && headG b ts)
  | [], b, _ => rfl
  | .int i :: ds, b, hb => by
    show ((decide (b ≤ i) && decide (i ≤ 100000)) && chD i ds) = (((decide (0 ≤ i) && decide (i ≤ 100000)) && tkD ds) && riseD (.int i :: ds) && decide (b ≤ i))
    by_cases h : b ≤ i
    · rw [ch_eq ds i (by omega), decide_eq_true h, decide_eq_true (show 0 ≤ i by omega)]
      cases ds with
      | nil => simp [headG, riseD, tkD]
      | cons d ds =>
        cases d with
        | int j =>
          show ((true && decide (i ≤ 100000)) && (tkD (.int j :: ds) && riseD (.int j :: ds) && decide (i ≤ j))) = ((true && decide (i ≤ 100000)) && tkD (.int j :: ds) && (decide (i ≤ j) && riseD (.int j :: ds)) && true)
          cases decide (i ≤ 100000) <;> cases tkD (.int j :: ds) <;> cases riseD (.int j :: ds) <;> cases decide (i ≤ j) <;> rfl
        | _ => simp [tkD, numD]
    · rw [decide_eq_false h]
      simp
  | .non :: ds, b, _ => rfl
  | .bl _ :: ds, b, _ => rfl
  | .str _ :: ds, b, _ => rfl
  | .tup _ :: ds, b, _ => rfl
  | .rls _ :: ds, b, _ => rfl
  | .loc _ :: ds, b, _ => rfl
theorem tk_ints : ∀ {ts : List D}, tkD ts = true → ∃ is : List Int, ts = is.map .int
  | [], _ => ⟨[], rfl⟩
  | d :: ds, h => by
    have h' : (numD d 0 100000 && tkD ds) = true := h
    rw [Bool.and_eq_true] at h'
    obtain ⟨i, rfl, _⟩ := numD_int h'.1
    obtain ⟨is, rfl⟩ := tk_ints h'.2
    exact ⟨i :: is, rfl⟩
def gtD : D → Bool
  | .tup [.int a, .int b] => decide (b < a)
  | _ => false
theorem zip_rise : ∀ (is : List Int) (i : Int), (zipD ((i :: is).map .int) (is.map .int)).any gtD = !riseD ((i :: is).map .int)
  | [], i => rfl
  | j :: is, i => by
    have ih := zip_rise is j
    show (gtD (.tup [.int i, .int j]) || (zipD ((j :: is).map .int) (is.map .int)).any gtD) = !(decide (i ≤ j) && riseD ((j :: is).map .int))
    rw [ih]
    show (decide (j < i) || _) = _
    by_cases h : i ≤ j
    · rw [decide_eq_true h, decide_eq_false (by omega)]; simp
    · rw [decide_eq_false h, decide_eq_true (by omega)]; simp
theorem zip_mem : ∀ (xs ys : List Int) (d : D), d ∈ zipD (xs.map .int) (ys.map .int) → ∃ a b, d = .tup [.int a, .int b]
  | [], _, d, h => by simp [zipD] at h
  | _ :: _, [], d, h => by simp [zipD] at h
  | x :: xs, y :: ys, d, h => by
    have h' : d = .tup [.int x, .int y] ∨ d ∈ zipD (xs.map .int) (ys.map .int) := by
      have : zipD ((x :: xs).map .int) ((y :: ys).map .int) = .tup [.int x, .int y] :: zipD (xs.map .int) (ys.map .int) := rfl
      rw [this] at h
      exact List.mem_cons.mp h
    rcases h' with rfl | h'
    · exact ⟨x, y, rfl⟩
    · exact zip_mem xs ys d h'
theorem three (ds : List D) (h : (ds.length : Int) = 3) : ∃ a b c, ds = [a, b, c] := by
  match ds, h with
  | [a, b, c], _ => exact ⟨a, b, c, rfl⟩
theorem str_no {x b c : D} (h : isK .tuple (kdD x) = false) : strD (.tup [x, b, c]) = false := by cases x <;> first | rfl | cases h
theorem str_nt {v : D} (h : tupN v 3 = false) : strD v = false := by
  cases v with
  | tup ds =>
    match ds, h with
    | [], _ => rfl
    | [a], h1 => clear h1; cases a <;> first | rfl | (rename_i l; cases l <;> rfl)
    | [a, b], h1 => clear h1; cases a <;> first | rfl | (rename_i l; cases l <;> rfl)
    | [a, b, c], h => exact Bool.noConfusion (show true = false from h)
    | a :: b :: c :: d :: r, h1 => clear h1; cases a <;> first | rfl | (rename_i l; cases l <;> rfl)
  | _ => rfl
theorem e_stream (n : Nat) (v : D) (S : Store) : callN P (n + 3) 3 [v] S = .ok (.bl (strD v)) S := by
  rw [callN_eq (n + 2) _ _ (fd := ⟨1, 4, b_is_stream, true⟩) rfl rfl (Nat.le_of_ble_eq_true rfl)]
  suffices H : ∃ e, exSs (callN P (n + 2)) b_is_stream [some v, none, none, none] S = .ok (.ret (.bl (strD v)), e) S by
    obtain ⟨e, h⟩ := H
    exact end_pure h rfl rfl
  unfold b_is_stream
  have x1 := e_tup (n + 1) v 3 S
  cases h3 : tupN v 3 with
  | false =>
    rw [str_nt h3]
    rw [h3] at x1
    refine ⟨[some v, none, none, none], ?_⟩
    walk_at "ev*"
  | true =>
    rw [h3] at x1
    obtain ⟨ds, rfl⟩ : ∃ ds, v = .tup ds := by cases v <;> first | exact ⟨_, rfl⟩ | cases h3
    obtain ⟨x, b, c, rfl⟩ := three ds (of_decide_eq_true h3)
    clear h3
    have i0 : ∀ S, idxD (.tup [x, b, c]) (.int 0) S = .ok x S := fun S => rfl
    have i1 : ∀ S, idxD (.tup [x, b, c]) (.int 1) S = .ok b S := fun S => rfl
    have i2 : ∀ S, idxD (.tup [x, b, c]) (.int 2) S = .ok c S := fun S => rfl
    have nb := e_num n b 1 60 S
    have nc := e_num n c 0 60 S
    cases hx : isK .tuple (kdD x) with
    | false =>
      rw [str_no hx]
      generalize D.tup [x, b, c] = V at *
      clear nb nc
      refine ⟨[some V, none, none, none], ?_⟩
      walk_at "ev*"
    | true =>
      obtain ⟨ts, rfl⟩ := tup_k hx
      cases ts with
      | nil =>
        rw [show strD (.tup [.tup [], b, c]) = false from rfl]
        generalize D.tup [.tup [], b, c] = V at *
        clear nb nc
        refine ⟨[some V, none, none, none], ?_⟩
        have t0 : ([] : List D).isEmpty = true := rfl
        walk_at "ev*"
      | cons t ts =>
        have t0 : ∀ (t : D) ts, (t :: ts).isEmpty = false := fun _ _ => rfl
        have k0 : ∀ l, isK .tuple (kdD (.tup l)) = true := fun _ => rfl
        have q1 : qlS (callN P (n + 2)) [some (.tup [.tup (t :: ts), b, c]), none, none, none] true (.nm 3) [3] .nil (.call 2 (.cons (.var 3) (.cons (.cint 0) (.cons (.gcon (PySem.Str.ofString "MOST_TICK") (.int 100000)) .nil)))) ⟨t :: ts, none⟩ (t :: ts) S = .ok (.bl (tkD (t :: ts))) S :=
          ql_is (callN P (n + 2)) [some (.tup [.tup (t :: ts), b, c]), none, none, none] true (.nm 3) [3] (.call 2 (.cons (.var 3) (.cons (.cint 0) (.cons (.gcon (PySem.Str.ofString "MOST_TICK") (.int 100000)) .nil)))) ⟨t :: ts, none⟩ S trivial (fun d => numD d 0 100000) (t :: ts) fun d _ => ⟨[some (.tup [.tup (t :: ts), b, c]), none, none, some d], rfl, by
            have := e_num n d 0 100000 S
            clear x1 i0 i1 i2 nb nc hx t0
            generalize D.tup [.tup (t :: ts), b, c] = V at *
            walk_at "ev*"⟩
        show ∃ e, _ = Res.ok (SX.Flow.ret (.bl ((tkD (t :: ts) && riseD (t :: ts)) && (numD b 1 60 && numD c 0 60))), e) S
        cases hk : tkD (t :: ts) with
        | false =>
          rw [hk] at q1
          generalize D.tup [.tup (t :: ts), b, c] = V at *
          clear nb nc hk
          refine ⟨[some V, none, none, none], ?_⟩
          walk_at "ev*"
          rfl
        | true =>
          rw [hk] at q1
          obtain ⟨is, e⟩ := tk_ints hk
          cases is with
          | nil => cases e
          | cons j is =>
            obtain ⟨rfl, rfl⟩ : t = .int j ∧ ts = is.map .int := by
              rw [List.map_cons] at e
              injection e with e1 e2
              exact ⟨e1, e2⟩
            have s1 : SX.cutD (.int j :: is.map .int) (some 1) none = is.map .int := cut_tail _ _
            have q2 : qlS (callN P (n + 2)) [some (.tup [.tup (.int j :: is.map .int), b, c]), none, none, none] false (.tp (.cons (.nm 1) (.cons (.nm 2) .nil))) [1, 2] .nil (.cmp .gt (.var 1) (.var 2)) ⟨zipD (.int j :: is.map .int) (is.map .int), none⟩ (zipD (.int j :: is.map .int) (is.map .int)) S = .ok (.bl (!riseD (.int j :: is.map .int))) S := by
              have := ql_is (callN P (n + 2)) [some (.tup [.tup (.int j :: is.map .int), b, c]), none, none, none] false (.tp (.cons (.nm 1) (.cons (.nm 2) .nil))) [1, 2] (.cmp .gt (.var 1) (.var 2)) ⟨zipD (.int j :: is.map .int) (is.map .int), none⟩ S trivial gtD (zipD (.int j :: is.map .int) (is.map .int)) fun d hd => by
                obtain ⟨p, q, rfl⟩ := zip_mem (j :: is) is d hd
                exact ⟨[some (.tup [.tup (.int j :: is.map .int), b, c]), some (.int p), some (.int q), none], rfl, by
                  clear x1 i0 i1 i2 nb nc hx t0 q1 s1 hk hd
                  show _ = Res.ok (D.bl (decide (q < p))) S
                  generalize D.tup [.tup (.int j :: is.map .int), b, c] = V at *
                  walk_at "ev*"⟩
              rw [this]
              have z := zip_rise is j
              rw [List.map_cons] at z
              rw [z]
              rfl
            clear hk e hx
            generalize hr : riseD (.int j :: is.map .int) = r at *
            clear hr
            generalize D.tup [.tup (.int j :: is.map .int), b, c] = V at *
            generalize is.map D.int = js at *
            refine ⟨[some V, none, none, none], ?_⟩
            generalize numD b 1 60 = u1 at *
            generalize numD c 0 60 = u2 at *
            cases r <;> cases u1 <;> cases u2 <;> walk_at "ev*" <;> rfl
/-! ### the law's streams -/
def lsB : Ss := .cons (.ite (.not (.call 8 (.cons (.var 2) (.cons (.var 1) (.cons (.cint 100000) .nil))))) (.cons (.ret (.cbl false)) .nil) .nil) (.cons (.asg (.nm 1) (.var 2)) .nil)
theorem ls_run (n : Nat) (V : D) (W : Walk) (S : Store) (hw : W.here S) : ∀ (ts : List D) (b : Int) (o : Option D), ∃ e, foS (callN P (n + 1)) (.nm 2) lsB W ts [some V, some (.int b), o] S = .ok (if chD b ts = true then .next else .ret (.bl false), e) S ∧ (chD b ts = true → e[0]? = some (some V) ∧ e.length = 3)
  | [], b, o => ⟨_, by rw [fo_nil _ _ _ _ _ _ hw]; rfl, fun _ => ⟨rfl, rfl⟩⟩
  | d :: ds, b, o => by
    rw [fo_cons _ _ _ _ _ _ _ _ hw]
    show ∃ e, foT (callN P (n + 1)) (.nm 2) lsB W ds S (some [some V, some (.int b), some d]) = _ ∧ _
    rw [foT_some]
    have x := e_lnum n d b 100000 S
    cases h : numD d b 100000 with
    | false =>
      have c : chD b (d :: ds) = false := by
        cases d with
        | int i =>
          show (numD (.int i) b 100000 && chD i ds) = false
          rw [h]; rfl
        | _ => rfl
      rw [h] at x
      rw [c]
      refine ⟨[some V, some (.int b), some d], ?_, fun z => by cases z⟩
      unfold lsB
      clear h c hw
      walk_at "ev*"
      all_goals rfl
    | true =>
      obtain ⟨i, rfl, h1, h2⟩ := numD_int h
      have c : chD b (.int i :: ds) = chD i ds := by
        show (numD (.int i) b 100000 && chD i ds) = _
        rw [h]; rfl
      rw [h] at x
      rw [c]
      have st : exSs (callN P (n + 1)) lsB [some V, some (.int b), some (.int i)] S = .ok (.next, [some V, some (.int i), some (.int i)]) S := by
        unfold lsB
        clear h c hw h1 h2
        walk_at "ev*"
      rw [st, bnd_ok, foK_n]
      exact ls_run n V W S hw ds i (some (.int i))
theorem e_lstream (n : Nat) (v : D) (S : Store) (hv : Dk 3 v) : callN P (n + 2) 9 [v] S = .ok (.bl (strD v)) S := by
  rw [callN_eq (n + 1) _ _ (fd := ⟨1, 3, b__law_is_stream, true⟩) rfl rfl (Nat.le_of_ble_eq_true rfl)]
  suffices H : ∃ e, exSs (callN P (n + 1)) b__law_is_stream [some v, none, none] S = .ok (.ret (.bl (strD v)), e) S by
    obtain ⟨e, h⟩ := H
    exact end_pure h rfl rfl
  unfold b__law_is_stream
  cases h0 : isK .tuple (kdD v) with
  | false =>
    rw [str_nt (tupN_k h0 3)]
    refine ⟨[some v, none, none], ?_⟩
    clear hv
    walk_at "ev*"
  | true =>
    obtain ⟨ds, rfl⟩ := tup_k h0
    cases h3 : decide ((ds.length : Int) = 3) with
    | false =>
      rw [str_nt (show tupN (.tup ds) 3 = false from h3)]
      refine ⟨[some (.tup ds), none, none], ?_⟩
      clear hv
      have l0 : primD .len [.tup ds] S = .ok (.int ds.length) S := rfl
      have ne : cmpD .ne (.int ds.length) (.int 3) S = some true := by
        show (eqD (.int ds.length) (.int 3) S).map (!·) = _
        rw [q_int, h3]; rfl
      generalize (ds.length : Int) = m at *
      generalize D.tup ds = V at *
      clear h3
      walk_at "ev*"
    | true =>
      obtain ⟨x, b, c, rfl⟩ := three ds (of_decide_eq_true h3)
      clear h3
      have i0 : ∀ S, idxD (.tup [x, b, c]) (.int 0) S = .ok x S := fun S => rfl
      have i1 : ∀ S, idxD (.tup [x, b, c]) (.int 1) S = .ok b S := fun S => rfl
      have i2 : ∀ S, idxD (.tup [x, b, c]) (.int 2) S = .ok c S := fun S => rfl
      have l0 : ∀ S, primD .len [.tup [x, b, c]] S = .ok (.int 3) S := fun S => rfl
      have nb := e_lnum n b 1 60 S
      have nc := e_lnum n c 0 60 S
      have hx2 : Dk 2 x := dk_of hv x (by simp)
      clear hv
      cases hx : isK .tuple (kdD x) with
      | false =>
        rw [str_no hx]
        generalize D.tup [x, b, c] = V at *
        clear nb nc hx2
        refine ⟨[some V, none, none], ?_⟩
        walk_at "ev*"
        all_goals rfl
      | true =>
        obtain ⟨ts, rfl⟩ := tup_k hx
        have en := eq_nil (by decide) hx2 S
        clear hx2
        cases ts with
        | nil =>
          rw [show strD (.tup [.tup [], b, c]) = false from rfl]
          have en' : eqD (.tup []) (.tup []) S = some true := en
          clear en
          generalize D.tup [.tup [], b, c] = V at *
          clear nb nc
          refine ⟨[some V, none, none], ?_⟩
          walk_at "ev*"
          all_goals rfl
        | cons t ts =>
          have en' : eqD (.tup (t :: ts)) (.tup []) S = some false := en
          clear en
          obtain ⟨e, hf, he⟩ := ls_run n (.tup [.tup (t :: ts), b, c]) ⟨t :: ts, none⟩ S trivial (t :: ts) 0 none
          have hc : chD 0 (t :: ts) = (tkD (t :: ts) && riseD (t :: ts)) := by
            rw [ch_eq _ _ (by decide)]
            cases hk : tkD (t :: ts) with
            | false => rfl
            | true =>
              have hk' : (numD t 0 100000 && tkD ts) = true := hk
              rw [Bool.and_eq_true] at hk'
              obtain ⟨i, rfl, h1, _⟩ := numD_int hk'.1
              show ((true && _) && decide (0 ≤ i)) = _
              rw [decide_eq_true h1, Bool.and_true]
          show ∃ e, _ = Res.ok (SX.Flow.ret (.bl ((tkD (t :: ts) && riseD (t :: ts)) && (numD b 1 60 && numD c 0 60))), e) S
          rw [← hc]
          clear hc hx
          generalize hq : chD 0 (t :: ts) = q at *
          clear hq
          have k0 : ∀ l, isK .tuple (kdD (.tup l)) = true := fun _ => rfl
          have hf' : foS (callN P (n + 1)) (.nm 2) (.cons (.ite (.not (.call 8 (.cons (.var 2) (.cons (.var 1) (.cons (.cint 100000) .nil))))) (.cons (.ret (.cbl false)) .nil) .nil) (.cons (.asg (.nm 1) (.var 2)) .nil)) ⟨t :: ts, none⟩ (t :: ts) [some (.tup [.tup (t :: ts), b, c]), some (.int 0), none] S = .ok (if q = true then .next else .ret (.bl false), e) S := hf
          clear hf
          generalize D.tup [.tup (t :: ts), b, c] = V at *
          refine seq_ex (Q := fun r => ∃ e, r = .ok (.ret (.bl (q && (numD b 1 60 && numD c 0 60))), e) S) [some V, none, none] S (by clear hf' he nb nc; walk_at "ev*"; all_goals rfl) ?_
          refine seq_ex (Q := fun r => ∃ e, r = .ok (.ret (.bl (q && (numD b 1 60 && numD c 0 60))), e) S) [some V, some (.int 0), none] S (by clear hf' he nb nc; walk_at "ev*") ?_
          rw [xSs_cons, show exS (callN P (n + 1)) (.fo (.nm 2) (.seq (.idx (.var 0) (.cint 0))) (.cons (.ite (.not (.call 8 (.cons (.var 2) (.cons (.var 1) (.cons (.cint 100000) .nil))))) (.cons (.ret (.cbl false)) .nil) .nil) (.cons (.asg (.nm 1) (.var 2)) .nil))) [some V, some (.int 0), none] S = .ok (if q = true then .next else .ret (.bl false), e) S from by
            rw [xS_fo, show evIt (callN P (n + 1)) (.seq (.idx (.var 0) (.cint 0))) [some V, some (.int 0), none] S = .ok ⟨t :: ts, none⟩ S from by clear hf' he nb nc; walk_at "ev*", bnd_ok]
            exact hf', bnd_ok]
          cases q with
          | false => exact ⟨e, rfl⟩
          | true =>
            obtain ⟨e0, el⟩ := he rfl
            obtain ⟨o1, o2, rfl⟩ : ∃ o1 o2, e = [some V, o1, o2] := by
              match e, e0, el with
              | [_, o1, o2], e0, _ => exact ⟨o1, o2, by cases e0; rfl⟩
            rw [if_pos rfl, sqK_n]
            refine ⟨[some V, o1, o2], ?_⟩
            clear hf' he e0 el
            generalize numD b 1 60 = u1 at *
            generalize numD c 0 60 = u2 at *
            cases u1 <;> cases u2 <;> walk_at "ev*" <;> rfl
end
end LW
namespace LW
open PySem PySem.Spec PyProof.Rows L2 SX
noncomputable section
open Classical
local macro_rules | `(tactic| walk_at "ev") => `(tactic| simp (config := { maxSteps := 3000000 }) (disch := first | assumption | omega | exact ⟨by omega, by omega⟩ | exact ⟨⟨by omega, by omega⟩, ⟨by omega, by omega⟩⟩ | exact Nat.le_of_ble_eq_true rfl | decide) only [bnd_ok, bnd_bad, binJ_eq, binK_eq, notK_eq, cmpJ_eq, cmpK_eq, idxJ_eq, idxK_eq, calJ_eq, clkJ_eq, clkK_eq, priJ_eq, isiJ_eq, metJ_eq, metI_t, metK_eq, lcJ_eq, lcK_eq, conJ_eq, conK_eq, andJ_eq, orJ_eq, rg2J_eq, nxtK_eq, setI1_eq, setI2_eq, setI3_eq, retK_eq,  vE_var, varK_ok, vE_int, vE_bl, vE_non, vE_str, vE_tup, vE_lst, vE_bin, vE_neg, vE_not, vE_and, vE_or, vE_cmp, vE_ite, brE_t, brE_f, vE_idx, vE_slc, ab_c, ab_v, ab_b, ab_a, optI_int, if_ft, if_tt, s_tup, vE_call, vE_callk, vE_prim, vE_isin, vE_meth, vE_lc, vE_gcon, toD_int, toD_strs, vE_chain, chnI_eq, chnK_eq, chnJ_t, chnJ_f, vE_tupG, tgJ_eq, tgK_eq, vE_qual, qlK_eq, vE_sumG, smK_eq, vE_lc2, l2K_eq, vEs_nil, vEs_cons, vA_one, vA_cons, vO_one, vO_cons, andK_t, andK_f, orK_t, orK_f, vT_nil, vT_cons, vI_seq, seqK_tup, seqK_rls, seqK_loc, seqL_ok, vI_enum, enK_eq, vI_zip, zpJ_eq, zpK_eq, vI_range1, rg1_int, vI_range2, rg2_int,
  xS_asg, asgK_nm, asgT_nm, asgT_tp2, asgT_tp3, asgK_tp2, asgK_tp3, xS_par, parK_2, parK_3, xS_setS, xS_aug, augV_ok, augK_add, augK_sub, xS_augS, agR_some, agD_eq, agX_eq, agI_eq, agO_eq, idxM_loc, augD_add, augD_sub, xS_expr, xS_ret, xS_retN, xS_ite, brS_t, brS_f, xS_wh, whB_t, whB_f, whK_n, whK_c, whK_b, whK_r, xS_fo, foT_some, foK_n, foK_c, foK_b, foK_r, xS_brk, xS_cont, xS_pass, xS_callx, flX_non, flX_tup, xS_tryx, xS_retx, rtX_non, rtX_tup, xSs_nil, xSs_cons, sqK_n, sqK_r, sqK_b, sqK_c,
  b_add, b_sub, b_mul, b_mulL, b_mulR, b_fdiv, b_mod, b_pow, b_addT, b_addL, addL_ok, b_repT, k_lt, k_le, k_gt, k_ge, k_eq, k_ne, k_isN, k_notN, k_in, k_nin, tr_str, q_int, q_bl, q_str, ofB_some, Option.map_some, tr_bl, tr_int, tr_non, tr_tup, tr_loc, trK_ok, td_bl, td_int, td_tup, i_tup, i_rls, i_loc, idxL_ok, okV_some, at0, at1, at2, at3, at_m1, tupK_ok, lstK_ok, negK_int, p_abs, p_int, p_intB, p_lenT, p_lenR, p_lenL, lenL_ok, p_sorted, p_sum, intsL_ok, allInt_map, srtI_ok, smI_ok, p_max, p_min, p_tupT, p_tupL, tupL_ok, p_lstT, p_lstL, lstL_ok, isD_ok, m_app, appL_ok, m_pop, popL_ok, m_rev, revL_ok, recv_ok, recvL_ok, set_loc, setL_ok, setI_ok, new_eq, Bool.not_true, Bool.not_false, if_true, eq_self, decide_true, decide_false,
  List.set_cons_zero, List.set_cons_succ, List.getElem?_cons_zero, List.getElem?_cons_succ, List.length_cons, List.length_nil, Option.some.injEq])
local macro_rules | `(tactic| walk_at "ev*") => `(tactic| simp (config := { maxSteps := 3000000 }) (disch := first | assumption | omega | exact ⟨by omega, by omega⟩ | exact ⟨⟨by omega, by omega⟩, ⟨by omega, by omega⟩⟩ | exact Nat.le_of_ble_eq_true rfl | decide) only [bnd_ok, bnd_bad, binJ_eq, binK_eq, notK_eq, cmpJ_eq, cmpK_eq, idxJ_eq, idxK_eq, calJ_eq, clkJ_eq, clkK_eq, priJ_eq, isiJ_eq, metJ_eq, metI_t, metK_eq, lcJ_eq, lcK_eq, conJ_eq, conK_eq, andJ_eq, orJ_eq, rg2J_eq, nxtK_eq, setI1_eq, setI2_eq, setI3_eq, retK_eq,  vE_var, varK_ok, vE_int, vE_bl, vE_non, vE_str, vE_tup, vE_lst, vE_bin, vE_neg, vE_not, vE_and, vE_or, vE_cmp, vE_ite, brE_t, brE_f, vE_idx, vE_slc, ab_c, ab_v, ab_b, ab_a, optI_int, if_ft, if_tt, s_tup, vE_call, vE_callk, vE_prim, vE_isin, vE_meth, vE_lc, vE_gcon, toD_int, toD_strs, vE_chain, chnI_eq, chnK_eq, chnJ_t, chnJ_f, vE_tupG, tgJ_eq, tgK_eq, vE_qual, qlK_eq, vE_sumG, smK_eq, vE_lc2, l2K_eq, vEs_nil, vEs_cons, vA_one, vA_cons, vO_one, vO_cons, andK_t, andK_f, orK_t, orK_f, vT_nil, vT_cons, vI_seq, seqK_tup, seqK_rls, seqK_loc, seqL_ok, vI_enum, enK_eq, vI_zip, zpJ_eq, zpK_eq, vI_range1, rg1_int, vI_range2, rg2_int,
  xS_asg, asgK_nm, asgT_nm, asgT_tp2, asgT_tp3, asgK_tp2, asgK_tp3, xS_par, parK_2, parK_3, xS_setS, xS_aug, augV_ok, augK_add, augK_sub, xS_augS, agR_some, agD_eq, agX_eq, agI_eq, agO_eq, idxM_loc, augD_add, augD_sub, xS_expr, xS_ret, xS_retN, xS_ite, brS_t, brS_f, xS_wh, whB_t, whB_f, whK_n, whK_c, whK_b, whK_r, xS_fo, foT_some, foK_n, foK_c, foK_b, foK_r, xS_brk, xS_cont, xS_pass, xS_callx, flX_non, flX_tup, xS_tryx, xS_retx, rtX_non, rtX_tup, xSs_nil, xSs_cons, sqK_n, sqK_r, sqK_b, sqK_c,
  b_add, b_sub, b_mul, b_mulL, b_mulR, b_fdiv, b_mod, b_pow, b_addT, b_addL, addL_ok, b_repT, k_lt, k_le, k_gt, k_ge, k_eq, k_ne, k_isN, k_notN, k_in, k_nin, tr_str, q_int, q_bl, q_str, ofB_some, Option.map_some, tr_bl, tr_int, tr_non, tr_tup, tr_loc, trK_ok, td_bl, td_int, td_tup, i_tup, i_rls, i_loc, idxL_ok, okV_some, at0, at1, at2, at3, at_m1, tupK_ok, lstK_ok, negK_int, p_abs, p_int, p_intB, p_lenT, p_lenR, p_lenL, lenL_ok, p_sorted, p_sum, intsL_ok, allInt_map, srtI_ok, smI_ok, p_max, p_min, p_tupT, p_tupL, tupL_ok, p_lstT, p_lstL, lstL_ok, isD_ok, m_app, appL_ok, m_pop, popL_ok, m_rev, revL_ok, recv_ok, recvL_ok, set_loc, setL_ok, setI_ok, new_eq, Bool.not_true, Bool.not_false, if_true, eq_self, decide_true, decide_false,
  List.set_cons_zero, List.set_cons_succ, List.getElem?_cons_zero, List.getElem?_cons_succ, List.length_cons, List.length_nil, Option.some.injEq, *])
local macro_rules | `(tactic| walk_at "evs") => `(tactic| simp (config := { maxSteps := 3000000 }) (disch := first | assumption | omega | exact ⟨by omega, by omega⟩ | exact ⟨⟨by omega, by omega⟩, ⟨by omega, by omega⟩⟩ | exact Nat.le_of_ble_eq_true rfl | decide) only [bnd_ok, bnd_bad, binJ_eq, binK_eq, notK_eq, cmpJ_eq, cmpK_eq, idxJ_eq, idxK_eq, calJ_eq, clkJ_eq, clkK_eq, priJ_eq, isiJ_eq, metJ_eq, metI_t, metK_eq, lcJ_eq, lcK_eq, conJ_eq, conK_eq, andJ_eq, orJ_eq, rg2J_eq, nxtK_eq, setI1_eq, setI2_eq, setI3_eq, retK_eq,  vE_var, varK_ok, vE_int, vE_bl, vE_non, vE_str, vE_tup, vE_lst, vE_bin, vE_neg, vE_not, vE_and, vE_or, vE_cmp, vE_ite, brE_t, brE_f, vE_idx, vE_slc, ab_c, ab_v, ab_b, ab_a, optI_int, if_ft, if_tt, s_tup, vE_call, vE_callk, vE_prim, vE_isin, vE_meth, vE_lc, vE_gcon, toD_int, toD_strs, vE_chain, chnI_eq, chnK_eq, chnJ_t, chnJ_f, vE_tupG, tgJ_eq, tgK_eq, vE_qual, qlK_eq, vE_sumG, smK_eq, vE_lc2, l2K_eq, vEs_nil, vEs_cons, vA_one, vA_cons, vO_one, vO_cons, andK_t, andK_f, orK_t, orK_f, vT_nil, vT_cons, vI_seq, seqK_tup, seqK_rls, seqK_loc, seqL_ok, vI_enum, enK_eq, vI_zip, zpJ_eq, zpK_eq, vI_range1, rg1_int, vI_range2, rg2_int,
  xS_asg, asgK_nm, asgT_nm, asgT_tp2, asgT_tp3, asgK_tp2, asgK_tp3, xS_par, parK_2, parK_3, xS_setS, xS_aug, augV_ok, augK_add, augK_sub, xS_augS, agR_some, agD_eq, agX_eq, agI_eq, agO_eq, idxM_loc, augD_add, augD_sub, xS_expr, xS_ret, xS_retN, xS_ite, brS_t, brS_f, xS_wh, whB_t, whB_f, whK_n, whK_c, whK_b, whK_r, xS_fo, foT_some, foK_n, foK_c, foK_b, foK_r, xS_brk, xS_cont, xS_pass, xS_callx, flX_non, flX_tup, xS_tryx, xS_retx, rtX_non, rtX_tup, xSs_nil, xSs_cons, sqK_n, sqK_r, sqK_b, sqK_c,
  b_add, b_sub, b_mul, b_mulL, b_mulR, b_fdiv, b_mod, b_pow, b_addT, b_addL, addL_ok, b_repT, k_lt, k_le, k_gt, k_ge, k_eq, k_ne, k_isN, k_notN, k_in, k_nin, tr_str, q_int, q_bl, q_str, ofB_some, Option.map_some, tr_bl, tr_int, tr_non, tr_tup, tr_loc, trK_ok, td_bl, td_int, td_tup, i_tup, i_rls, i_loc, idxL_ok, okV_some, at0, at1, at2, at3, at_m1, tupK_ok, lstK_ok, negK_int, p_abs, p_int, p_intB, p_lenT, p_lenR, p_lenL, lenL_ok, p_sorted, p_sum, intsL_ok, allInt_map, srtI_ok, smI_ok, p_max, p_min, p_tupT, p_tupL, tupL_ok, p_lstT, p_lstL, lstL_ok, isD_ok, m_app, appL_ok, m_pop, popL_ok, m_rev, revL_ok, recv_ok, recvL_ok, set_loc, setL_ok, setI_ok, new_eq, Bool.not_true, Bool.not_false, if_true, eq_self, decide_true, decide_false,
  List.set_cons_zero, List.set_cons_succ, List.getElem?_cons_zero, List.getElem?_cons_succ, List.length_cons, List.length_nil, Option.some.injEq, List.cons_append, List.nil_append, List.append_assoc, Nat.reduceAdd, st_get, st_get0, st_set, st_set0, List.length_append, Nat.add_zero, Nat.zero_add, *])

/-! ### what raises, and what the law says -/
def resD (w : Str) : Option Int → D
  | none => .non
  | some n => .tup [.str w, .int n]
def flo (w : Str) : Option Int → SX.Flow
  | none => .next
  | some n => .ret (.tup [.str w, .int n])
theorem end_fl {fd : Fd} {w : Str} {o : Option Int} {env : SX.Env} {S : Store} {r : Res (SX.Flow × SX.Env)} (h : r = .ok (flo w o, env) S) (hp : fd.pure = false) : endF fd S r = .ok (resD w o) S := by
  subst h
  unfold endF
  rw [bnd_ok]
  cases o <;> simp [flo, resD, hp]
def gl : Option Int → SX.Flow
  | none => .next
  | some n => .ret (.int n)
def resL : Option Int → D
  | none => .non
  | some n => .int n
theorem seq_eq {F : Fns} {s : SX.St} {ss : Ss} {env : SX.Env} {S : Store} {R : Res (SX.Flow × SX.Env)} (env' : SX.Env) (S' : Store) (h : exS F s env S = .ok (.next, env') S') (q : exSs F ss env' S' = R) : exSs F (.cons s ss) env S = R := by
  rw [xSs_cons, h, bnd_ok, sqK_n]
  exact q
theorem sq_gl {F : Fns} {s : SX.St} {ss : Ss} {env env' : SX.Env} {S : Store} {o r : Option Int} (h : exS F s env S = .ok (gl o, env') S) (q : o = none → ∃ e, exSs F ss env' S = .ok (.ret (resL r), e) S) : ∃ e, exSs F (.cons s ss) env S = .ok (.ret (resL (o.or r)), e) S := by
  cases o with
  | none =>
    obtain ⟨e, q⟩ := q rfl
    exact ⟨e, by rw [xSs_cons, h, bnd_ok]; show sqK F ss (.next, env') S = _; rw [sqK_n, q]; rfl⟩
  | some k => exact ⟨env', by rw [xSs_cons, h, bnd_ok]; rfl⟩
theorem or_none (o : Option Int) : o = o.or none := by cases o <;> rfl
/-! ### data -/
def lenS (v : D) : Int := match v with
  | .tup (.tup ts :: _) => ts.length
  | _ => 0
def dL (i : Nat) (m : Int) : List D → Option Int
  | [] => none
  | d :: ds => if (decide ((i : Int) = 3) || !strD d) = true then some i else if 60 < m + lenS d then some i else dL (i + 1) (m + lenS d) ds
def dfD (v : D) : Option Int := match v with
  | .tup (d :: ds) => dL 0 0 (d :: ds)
  | _ => some (-1)
theorem dL_rng : ∀ (ds : List D) (i : Nat) (m : Int), i ≤ 3 → ∀ k, dL i m ds = some k → 0 ≤ k ∧ k ≤ 3
  | [], _, _, _, k, h => by cases h
  | d :: ds, i, m, hi, k, h => by
    unfold dL at h
    split at h
    · cases h; omega
    · rename_i c
      split at h
      · cases h; omega
      · refine dL_rng ds (i + 1) _ ?_ k h
        have : decide ((i : Int) = 3) = false := by
          cases h3 : decide ((i : Int) = 3) with
          | false => rfl
          | true => rw [h3] at c; exact absurd rfl c
        have := of_decide_eq_false this
        omega
theorem dfD_rng (v : D) (k : Int) (h : dfD v = some k) : -1 ≤ k ∧ k ≤ 12 := by
  unfold dfD at h
  split at h
  · have := dL_rng _ 0 0 (by decide) k h
    omega
  · cases h
    decide
theorem str_shape {d : D} (h : strD d = true) : ∃ ts b c, d = .tup [.tup ts, b, c] := by
  unfold strD at h
  split at h
  · exact ⟨_, _, _, rfl⟩
  · cases h
def enumF (k : Nat) : List D → List D
  | [] => []
  | d :: ds => .tup [.int (k : Nat), d] :: enumF (k + 1) ds
theorem enum_k : ∀ (ds : List D) (k : Nat), (ds.mapIdx fun i d => D.tup [.int ((k + i : Nat) : Int), d]) = enumF k ds
  | [], _ => rfl
  | d :: ds, k => by
    rw [List.mapIdx_cons]
    show D.tup [.int ((k + 0 : Nat) : Int), d] :: _ = D.tup [.int (k : Nat), d] :: _
    rw [← enum_k ds (k + 1), Nat.add_zero]
    congr 1
    congr 1
    funext i d
    rw [show k + (i + 1) = k + 1 + i from by omega]
theorem enum_eq (ds : List D) : enumD ds = enumF 0 ds := by
  rw [← enum_k ds 0]
  unfold enumD
  congr 1
  funext i d
  rw [Nat.zero_add]
def intsF (k : Nat) : Nat → List D
  | 0 => []
  | j + 1 => .int (k : Nat) :: intsF (k + 1) j
theorem ints_k : ∀ (j k : Nat), ((List.range' k j).map fun (i : Nat) => D.int (i : Int)) = intsF k j
  | 0, _ => rfl
  | j + 1, k => by rw [List.range'_succ, List.map_cons, ints_k j (k + 1)]; rfl
theorem rng_ints (m : Nat) : rngK 0 (m : Int) = intsF 0 m := by
  unfold rngK
  rw [← ints_k m 0, List.range_eq_range']
  simp
def dcB : Ss := .cons (.ite (.or (.cons (.cmp .gt (.var 2) (.cint 2)) (.cons (.not (.call 3 (.cons (.var 3) .nil))) .nil))) (.cons (.ret (.tup (.cons (.cstr (PySem.Str.ofString "data")) (.cons (.var 2) .nil)))) .nil) .nil) (.cons (.aug 1 .add (.prim .len (.cons (.idx (.var 3) (.cint 0)) .nil))) (.cons (.ite (.cmp .gt (.var 1) (.gcon (PySem.Str.ofString "MOST_LETTERS") (.int 60))) (.cons (.ret (.tup (.cons (.cstr (PySem.Str.ofString "data")) (.cons (.var 2) .nil)))) .nil) .nil) .nil))
theorem dc_run (n : Nat) (V : D) (W : Walk) (S : Store) (hw : W.here S) : ∀ (ds : List D) (i : Nat) (m : Int) (o2 o3 : Option D), i ≤ 3 → ∃ e, foS (callN P (n + 3)) (.tp (.cons (.nm 2) (.cons (.nm 3) .nil))) dcB W (enumF i ds) [some V, some (.int m), o2, o3] S = .ok (flo "data" (dL i m ds), e) S
  | [], i, m, o2, o3, _ => ⟨_, by unfold enumF; rw [fo_nil _ _ _ _ _ _ hw]; rfl⟩
  | d :: ds, i, m, o2, o3, hi => by
    unfold enumF
    rw [fo_cons _ _ _ _ _ _ _ _ hw]
    show ∃ e, foT (callN P (n + 3)) (.tp (.cons (.nm 2) (.cons (.nm 3) .nil))) dcB W (enumF (i + 1) ds) S (some [some V, some (.int m), some (.int (i : Nat)), some d]) = _
    rw [foT_some]
    have x := e_stream n d S
    have g2 : decide ((2 : Int) < (i : Int)) = decide ((i : Int) = 3) := by
      by_cases h : (i : Int) = 3
      · rw [decide_eq_true h, decide_eq_true (by omega)]
      · rw [decide_eq_false h, decide_eq_false (by omega)]
    unfold dL
    cases h3 : decide ((i : Int) = 3) with
    | true =>
      rw [h3] at g2
      refine ⟨[some V, some (.int m), some (.int (i : Nat)), some d], ?_⟩
      unfold dcB
      clear h3 x hw
      generalize (i : Int) = ii at *
      simp only [Bool.true_or, if_true, flo]
      walk_at "ev*"
      all_goals rfl
    | false =>
      rw [h3] at g2
      have hi3 : i < 3 := by have := of_decide_eq_false h3; omega
      clear h3
      cases h : strD d with
      | false =>
        rw [h] at x
        refine ⟨[some V, some (.int m), some (.int (i : Nat)), some d], ?_⟩
        unfold dcB
        clear hw h hi hi3
        generalize (i : Int) = ii at *
        simp only [Bool.not_false, Bool.or_true, if_true, flo]
        walk_at "ev*"
        all_goals rfl
      | true =>
        rw [h] at x
        obtain ⟨ts, b, c, rfl⟩ := str_shape h
        have i0 : ∀ S, idxD (.tup [.tup ts, b, c]) (.int 0) S = .ok (.tup ts) S := fun S => rfl
        have l0 : ∀ S, primD .len [.tup ts] S = .ok (.int ts.length) S := fun S => rfl
        have ls : lenS (.tup [.tup ts, b, c]) = ts.length := rfl
        rw [ls]
        rw [if_neg (by simp)]
        by_cases hm : 60 < m + (ts.length : Int)
        · rw [if_pos hm]
          have dm : decide (60 < m + (ts.length : Int)) = true := decide_eq_true hm
          refine ⟨[some V, some (.int (m + ts.length)), some (.int (i : Nat)), some (.tup [.tup ts, b, c])], ?_⟩
          unfold dcB
          clear hw h hi hi3 hm ls
          generalize (i : Int) = ii at *
          generalize (ts.length : Int) = tl at *
          generalize D.tup [.tup ts, b, c] = W1 at *
          simp only [flo]
          walk_at "ev*"
          all_goals rfl
        · rw [if_neg hm]
          have dm : decide (60 < m + (ts.length : Int)) = false := decide_eq_false hm
          have st : exSs (callN P (n + 3)) dcB [some V, some (.int m), some (.int (i : Nat)), some (.tup [.tup ts, b, c])] S = .ok (.next, [some V, some (.int (m + ts.length)), some (.int (i : Nat)), some (.tup [.tup ts, b, c])]) S := by
            unfold dcB
            clear hw h hi hi3 hm ls
            generalize (i : Int) = ii at *
            generalize (ts.length : Int) = tl at *
            generalize D.tup [.tup ts, b, c] = W1 at *
            walk_at "ev*"
            all_goals rfl
          rw [st, bnd_ok, foK_n]
          exact dc_run n V W S hw ds (i + 1) (m + ts.length) _ _ (by omega)
theorem e_data (n : Nat) (v : D) (S : Store) : callN P (n + 4) 23 [v] S = .ok (resD "data" (dfD v)) S := by
  rw [callN_eq (n + 3) _ _ (fd := ⟨1, 4, b_check_data, false⟩) rfl rfl (Nat.le_of_ble_eq_true rfl)]
  suffices H : ∃ e, exSs (callN P (n + 3)) b_check_data [some v, none, none, none] S = .ok (flo "data" (dfD v), e) S by
    obtain ⟨e, h⟩ := H
    exact end_fl h rfl
  unfold b_check_data
  cases h0 : isK .tuple (kdD v) with
  | false =>
    rw [show dfD v = some (-1) from by cases v <;> first | rfl | cases h0]
    refine ⟨[some v, none, none, none], ?_⟩
    simp only [flo]
    walk_at "ev*"
    all_goals rfl
  | true =>
    obtain ⟨ds, rfl⟩ := tup_k h0
    cases ds with
    | nil =>
      refine ⟨[some (.tup []), none, none, none], ?_⟩
      have t0 : ([] : List D).isEmpty = true := rfl
      show _ = Res.ok (flo "data" (some (-1)), _) S
      simp only [flo]
      walk_at "ev*"
      all_goals rfl
    | cons d ds =>
      have t0 : (d :: ds).isEmpty = false := rfl
      obtain ⟨e, he⟩ := dc_run n (.tup (d :: ds)) ⟨enumD (d :: ds), none⟩ S trivial (d :: ds) 0 0 none none (by decide)
      have he' : foS (callN P (n + 3)) (.tp (.cons (.nm 2) (.cons (.nm 3) .nil))) (.cons (.ite (.or (.cons (.cmp .gt (.var 2) (.cint 2)) (.cons (.not (.call 3 (.cons (.var 3) .nil))) .nil))) (.cons (.ret (.tup (.cons (.cstr (PySem.Str.ofString "data")) (.cons (.var 2) .nil)))) .nil) .nil) (.cons (.aug 1 .add (.prim .len (.cons (.idx (.var 3) (.cint 0)) .nil))) (.cons (.ite (.cmp .gt (.var 1) (.gcon (PySem.Str.ofString "MOST_LETTERS") (.int 60))) (.cons (.ret (.tup (.cons (.cstr (PySem.Str.ofString "data")) (.cons (.var 2) .nil)))) .nil) .nil) .nil))) ⟨enumD (d :: ds), none⟩ (enumD (d :: ds)) [some (.tup (d :: ds)), some (.int 0), none, none] S = .ok (flo "data" (dfD (.tup (d :: ds))), e) S := by
        rw [← enum_eq] at he
        exact he
      clear he
      generalize dfD (.tup (d :: ds)) = oo at *
      refine seq_ex (Q := fun r => ∃ e, r = .ok (flo "data" oo, e) S) [some (.tup (d :: ds)), none, none, none] S (by clear he'; walk_at "ev*") ?_
      refine seq_ex (Q := fun r => ∃ e, r = .ok (flo "data" oo, e) S) [some (.tup (d :: ds)), some (.int 0), none, none] S (by clear he'; walk_at "ev*") ?_
      rw [xSs_cons, xS_fo, show evIt (callN P (n + 3)) (.enum (.var 0)) [some (.tup (d :: ds)), some (.int 0), none, none] S = .ok ⟨enumD (d :: ds), none⟩ S from by clear he'; walk_at "ev*", bnd_ok]
      refine ⟨e, ?_⟩
      show (foS (callN P (n + 3)) (.tp (.cons (.nm 2) (.cons (.nm 3) .nil))) (.cons (.ite (.or (.cons (.cmp .gt (.var 2) (.cint 2)) (.cons (.not (.call 3 (.cons (.var 3) .nil))) .nil))) (.cons (.ret (.tup (.cons (.cstr (PySem.Str.ofString "data")) (.cons (.var 2) .nil)))) .nil) .nil) (.cons (.aug 1 .add (.prim .len (.cons (.idx (.var 3) (.cint 0)) .nil))) (.cons (.ite (.cmp .gt (.var 1) (.gcon (PySem.Str.ofString "MOST_LETTERS") (.int 60))) (.cons (.ret (.tup (.cons (.cstr (PySem.Str.ofString "data")) (.cons (.var 2) .nil)))) .nil) .nil) .nil))) ⟨enumD (d :: ds), none⟩ (enumD (d :: ds)) [some (.tup (d :: ds)), some (.int 0), none, none] S).bnd _ = _
      rw [he', bnd_ok]
      cases oo with
      | none => simp only [flo]; rw [sqK_n, xSs_nil]
      | some k => simp only [flo]; rw [sqK_r]
/-! ### the law's word on data -/
def ldB : Ss := .cons (.ite (.or (.cons (.cmp .eq (.var 2) (.cint 3)) (.cons (.not (.call 9 (.cons (.idx (.var 0) (.var 2)) .nil))) .nil))) (.cons (.ret (.var 2)) .nil) .nil) (.cons (.aug 1 .add (.prim .len (.cons (.idx (.idx (.var 0) (.var 2)) (.cint 0)) .nil))) (.cons (.ite (.cmp .gt (.var 1) (.cint 60)) (.cons (.ret (.var 2)) .nil) .nil) .nil))
theorem ld_run (n : Nat) (all : List D) (hk : ∀ d ∈ all, Dk 3 d) (W : Walk) (S : Store) (hw : W.here S) : ∀ (ds : List D) (i : Nat) (m : Int) (o : Option D), i ≤ 3 → (∀ j, ds[j]? = all[i + j]?) → ∃ e, foS (callN P (n + 2)) (.nm 2) ldB W (intsF i ds.length) [some (.tup all), some (.int m), o] S = .ok (gl (dL i m ds), e) S
  | [], i, m, o, _, _ => ⟨_, by show foS _ _ _ _ [] _ _ = _; rw [fo_nil _ _ _ _ _ _ hw]; rfl⟩
  | d :: ds, i, m, o, hi, hs => by
    show ∃ e, foS (callN P (n + 2)) (.nm 2) ldB W (.int (i : Nat) :: intsF (i + 1) ds.length) _ S = _
    rw [fo_cons _ _ _ _ _ _ _ _ hw]
    show ∃ e, foT (callN P (n + 2)) (.nm 2) ldB W (intsF (i + 1) ds.length) S (some [some (.tup all), some (.int m), some (.int (i : Nat))]) = _
    rw [foT_some]
    have h0 : all[i]? = some d := by
      have := hs 0
      rw [Nat.add_zero] at this
      rw [← this]; rfl
    have x := e_lstream n d S (hk d (List.mem_of_getElem? h0))
    have ix : ∀ S, idxD (.tup all) (.int (i : Nat)) S = .ok d S := fun S => by
      have hl := (List.getElem?_eq_some_iff.mp h0).1
      show okV (atI all (i : Int)) S = _
      rw [at_nat (by omega) (by omega)]
      have e := (List.getElem?_eq_some_iff.mp h0).2
      simp only [Int.toNat_natCast]
      rw [e]; rfl
    unfold dL
    cases h3 : decide ((i : Int) = 3) with
    | true =>
      refine ⟨[some (.tup all), some (.int m), some (.int (i : Nat))], ?_⟩
      unfold ldB
      clear x hw hs h0 hk ix hi
      generalize (i : Int) = ii at *
      simp only [Bool.true_or, if_true, gl]
      walk_at "ev*"
      all_goals rfl
    | false =>
      have hi3 : i < 3 := by have := of_decide_eq_false h3; omega
      cases h : strD d with
      | false =>
        rw [h] at x
        refine ⟨[some (.tup all), some (.int m), some (.int (i : Nat))], ?_⟩
        unfold ldB
        clear hw h hi hi3 hs h0 hk
        generalize (i : Int) = ii at *
        generalize D.tup all = V at *
        simp only [Bool.not_false, Bool.or_true, if_true, gl]
        walk_at "ev*"
        all_goals rfl
      | true =>
        rw [h] at x
        obtain ⟨ts, b, c, rfl⟩ := str_shape h
        have i0 : ∀ S, idxD (.tup [.tup ts, b, c]) (.int 0) S = .ok (.tup ts) S := fun S => rfl
        have l0 : ∀ S, primD .len [.tup ts] S = .ok (.int ts.length) S := fun S => rfl
        have ls : lenS (.tup [.tup ts, b, c]) = ts.length := rfl
        rw [ls]
        rw [if_neg (by simp)]
        by_cases hm : 60 < m + (ts.length : Int)
        · rw [if_pos hm]
          have dm : decide (60 < m + (ts.length : Int)) = true := decide_eq_true hm
          refine ⟨[some (.tup all), some (.int (m + ts.length)), some (.int (i : Nat))], ?_⟩
          unfold ldB
          clear hw h hi hi3 hs h0 hk hm ls
          generalize (i : Int) = ii at *
          generalize (ts.length : Int) = tl at *
          generalize D.tup [.tup ts, b, c] = W1 at *
          generalize D.tup all = V at *
          simp only [gl]
          walk_at "ev*"
          all_goals rfl
        · rw [if_neg hm]
          have dm : decide (60 < m + (ts.length : Int)) = false := decide_eq_false hm
          have st : exSs (callN P (n + 2)) ldB [some (.tup all), some (.int m), some (.int (i : Nat))] S = .ok (.next, [some (.tup all), some (.int (m + ts.length)), some (.int (i : Nat))]) S := by
            unfold ldB
            clear hw h hi hi3 hs h0 hk hm ls
            generalize (i : Int) = ii at *
            generalize (ts.length : Int) = tl at *
            generalize D.tup [.tup ts, b, c] = W1 at *
            generalize D.tup all = V at *
            walk_at "ev*"
            all_goals rfl
          rw [st, bnd_ok, foK_n]
          exact ld_run n all hk W S hw ds (i + 1) (m + ts.length) _ (by omega) fun j => by
            have := hs (j + 1)
            rw [show i + 1 + j = i + (j + 1) from by omega, ← this]
            rfl
theorem e_ldata (n : Nat) (v : D) (S : Store) (hv : Dk 4 v) (hl : ∀ ds, v = .tup ds → ds.length ≤ 1000) : callN P (n + 3) 10 [v] S = .ok (resL (dfD v)) S := by
  rw [callN_eq (n + 2) _ _ (fd := ⟨1, 3, b__law_data_fault, true⟩) rfl rfl (Nat.le_of_ble_eq_true rfl)]
  suffices H : ∃ e, exSs (callN P (n + 2)) b__law_data_fault [some v, none, none] S = .ok (.ret (resL (dfD v)), e) S by
    obtain ⟨e, h⟩ := H
    exact end_pure h rfl (by cases dfD v <;> rfl)
  unfold b__law_data_fault
  cases h0 : isK .tuple (kdD v) with
  | false =>
    rw [show dfD v = some (-1) from by cases v <;> first | rfl | cases h0]
    refine ⟨[some v, none, none], ?_⟩
    simp only [resL]
    clear hv hl
    walk_at "ev*"
    all_goals rfl
  | true =>
    obtain ⟨ds, rfl⟩ := tup_k h0
    have en := eq_nil (by decide) hv S
    cases ds with
    | nil =>
      have en' : eqD (.tup []) (.tup []) S = some true := en
      refine ⟨[some (.tup []), none, none], ?_⟩
      show _ = Res.ok (SX.Flow.ret (resL (some (-1))), _) S
      simp only [resL]
      clear en hv hl
      walk_at "ev*"
      all_goals rfl
    | cons d ds =>
      have en' : eqD (.tup (d :: ds)) (.tup []) S = some false := en
      have hl' := hl _ rfl
      have r62 : R62 ((d :: ds).length : Int) := ⟨by omega, by omega⟩
      obtain ⟨e, he⟩ := ld_run n (d :: ds) (dk_of hv) ⟨rngK 0 ((d :: ds).length : Int), none⟩ S trivial (d :: ds) 0 0 none (by decide) (fun j => by rw [Nat.zero_add])
      have he' : foS (callN P (n + 2)) (.nm 2) (.cons (.ite (.or (.cons (.cmp .eq (.var 2) (.cint 3)) (.cons (.not (.call 9 (.cons (.idx (.var 0) (.var 2)) .nil))) .nil))) (.cons (.ret (.var 2)) .nil) .nil) (.cons (.aug 1 .add (.prim .len (.cons (.idx (.idx (.var 0) (.var 2)) (.cint 0)) .nil))) (.cons (.ite (.cmp .gt (.var 1) (.cint 60)) (.cons (.ret (.var 2)) .nil) .nil) .nil))) ⟨rngK 0 ((d :: ds).length : Int), none⟩ (rngK 0 ((d :: ds).length : Int)) [some (.tup (d :: ds)), some (.int 0), none] S = .ok (gl (dfD (.tup (d :: ds))), e) S := by
        rw [rng_ints] at he ⊢
        exact he
      clear he en hv hl hl'
      have l0 : ∀ S, primD .len [.tup (d :: ds)] S = .ok (.int ((d :: ds).length : Int)) S := fun S => rfl
      generalize dfD (.tup (d :: ds)) = oo at *
      generalize ((d :: ds).length : Int) = ll at *
      generalize D.tup (d :: ds) = V at *
      refine seq_ex (Q := fun r => ∃ e, r = .ok (.ret (resL oo), e) S) [some V, none, none] S (by clear he'; walk_at "ev*") ?_
      refine seq_ex (Q := fun r => ∃ e, r = .ok (.ret (resL oo), e) S) [some V, some (.int 0), none] S (by clear he'; walk_at "ev*") ?_
      have hx : exS (callN P (n + 2)) (.fo (.nm 2) (.range1 (.prim .len (.cons (.var 0) .nil))) (.cons (.ite (.or (.cons (.cmp .eq (.var 2) (.cint 3)) (.cons (.not (.call 9 (.cons (.idx (.var 0) (.var 2)) .nil))) .nil))) (.cons (.ret (.var 2)) .nil) .nil) (.cons (.aug 1 .add (.prim .len (.cons (.idx (.idx (.var 0) (.var 2)) (.cint 0)) .nil))) (.cons (.ite (.cmp .gt (.var 1) (.cint 60)) (.cons (.ret (.var 2)) .nil) .nil) .nil)))) [some V, some (.int 0), none] S = .ok (gl oo, e) S := by
        rw [xS_fo, show evIt (callN P (n + 2)) (.range1 (.prim .len (.cons (.var 0) .nil))) [some V, some (.int 0), none] S = .ok ⟨rngK 0 ll, none⟩ S from by clear he'; walk_at "ev*", bnd_ok]
        exact he'
      rw [or_none oo]
      refine sq_gl hx fun _ => ⟨e, ?_⟩
      clear he' hx
      simp only [resL]
      walk_at "ev*"
/-! ### courses -/
def fateD (lo hi : Int) (d : D) : Bool := isNonD d || numD d lo hi
def cR (xs : List D) (lo hi k : Int) : Option Int := if decide (400 < (xs.length : Int)) = true then some k else if xs.all (fateD lo hi) = true then none else some k
def cfD (lo hi low high : Int) (v : D) : Option Int := match v with
  | .tup [.tup xs, .tup ys] => (cR xs lo hi 0).or (cR ys low high 1)
  | _ => some (-1)
theorem cR_k {xs : List D} {lo hi k j : Int} (h : cR xs lo hi k = some j) : j = k := by
  unfold cR at h
  split at h
  · cases h; rfl
  · split at h
    · cases h
    · cases h; rfl
theorem cfD_rng (lo hi low high : Int) (v : D) (k : Int) (h : cfD lo hi low high v = some k) : -1 ≤ k ∧ k ≤ 12 := by
  unfold cfD at h
  split at h
  · rename_i xs ys
    cases h1 : cR xs lo hi 0 with
    | some a =>
      rw [h1] at h
      cases h
      have := cR_k h1
      omega
    | none =>
      rw [h1] at h
      have := cR_k h
      omega
  · cases h
    decide
theorem e_fate0 (n : Nat) (lo hi low high : Int) (d : D) (S : Store) : callN P (n + 3) 4 [.tup [.int lo, .int hi, .int low, .int high], .int 0, d] S = .ok (.bl (fateD lo hi d)) S := by
  rw [callN_eq (n + 2) _ _ (fd := ⟨3, 3, b_is_fate, true⟩) rfl rfl (Nat.le_of_ble_eq_true rfl)]
  refine end_pure (env := [some (.tup [.int lo, .int hi, .int low, .int high]), some (.int 0), some d]) ?_ rfl rfl
  show exSs (callN P (n + 2)) b_is_fate [some (.tup [.int lo, .int hi, .int low, .int high]), some (.int 0), some d] S = _
  unfold b_is_fate fateD
  have i0 : ∀ S, idxD (.tup [.int lo, .int hi, .int low, .int high]) (.int (2 * 0)) S = .ok (.int lo) S := fun S => rfl
  have i1 : ∀ S, idxD (.tup [.int lo, .int hi, .int low, .int high]) (.int (2 * 0 + 1)) S = .ok (.int hi) S := fun S => rfl
  have x := e_num n d lo hi S
  have c1 : CMulW 2 0 ∨ CMul 2 0 := cmul_small (by decide)
  generalize D.tup [.int lo, .int hi, .int low, .int high] = V at *
  generalize numD d lo hi = u at *
  cases hz : isNonD d <;> cases u <;> walk_at "ev*" <;> rfl
theorem lf0 (n : Nat) (lo hi low high : Int) (V : D) (W : Walk) (S : Store) (hw : W.here S) : ∀ (xs : List D) (o : Option D), ∃ e, foS (callN P (n + 1)) (.nm 3) (.cons (.ite (.and (.cons (.cmp .notN (.var 3) (.cnon)) (.cons (.not (.call 8 (.cons (.var 3) (.cons (.idx (.var 1) (.bin .mul (.cint 2) (.var 2))) (.cons (.idx (.var 1) (.bin .add (.bin .mul (.cint 2) (.var 2)) (.cint 1))) .nil))))) .nil))) (.cons (.ret (.var 2)) .nil) .nil) .nil) W xs [some V, some (.tup [.int lo, .int hi, .int low, .int high]), some (.int 0), o] S = .ok (if xs.all (fateD lo hi) = true then .next else .ret (.int 0), [some V, some (.tup [.int lo, .int hi, .int low, .int high]), some (.int 0), e]) S
  | [], o => ⟨o, by rw [fo_nil _ _ _ _ _ _ hw]; rfl⟩
  | d :: ds, o => by
    rw [fo_cons _ _ _ _ _ _ _ _ hw]
    show ∃ e, foT (callN P (n + 1)) (.nm 3) (.cons (.ite (.and (.cons (.cmp .notN (.var 3) (.cnon)) (.cons (.not (.call 8 (.cons (.var 3) (.cons (.idx (.var 1) (.bin .mul (.cint 2) (.var 2))) (.cons (.idx (.var 1) (.bin .add (.bin .mul (.cint 2) (.var 2)) (.cint 1))) .nil))))) .nil))) (.cons (.ret (.var 2)) .nil) .nil) .nil) W ds S (some [some V, some (.tup [.int lo, .int hi, .int low, .int high]), some (.int 0), some d]) = _
    rw [foT_some, List.all_cons]
    have i0 : ∀ S, idxD (.tup [.int lo, .int hi, .int low, .int high]) (.int (2 * 0)) S = .ok (.int lo) S := fun S => rfl
    have i1 : ∀ S, idxD (.tup [.int lo, .int hi, .int low, .int high]) (.int (2 * 0 + 1)) S = .ok (.int hi) S := fun S => rfl
    have x := e_lnum n d lo hi S
    have c1 : CMulW 2 0 ∨ CMul 2 0 := cmul_small (by decide)
    have st : exSs (callN P (n + 1)) (.cons (.ite (.and (.cons (.cmp .notN (.var 3) (.cnon)) (.cons (.not (.call 8 (.cons (.var 3) (.cons (.idx (.var 1) (.bin .mul (.cint 2) (.var 2))) (.cons (.idx (.var 1) (.bin .add (.bin .mul (.cint 2) (.var 2)) (.cint 1))) .nil))))) .nil))) (.cons (.ret (.var 2)) .nil) .nil) .nil) [some V, some (.tup [.int lo, .int hi, .int low, .int high]), some (.int 0), some d] S = .ok (if fateD lo hi d = true then .next else .ret (.int 0), [some V, some (.tup [.int lo, .int hi, .int low, .int high]), some (.int 0), some d]) S := by
      unfold fateD
      generalize D.tup [.int lo, .int hi, .int low, .int high] = RR at *
      generalize numD d lo hi = u at *
      clear hw
      cases hz : isNonD d <;> cases u <;> walk_at "ev*" <;> rfl
    rw [st, bnd_ok]
    cases fateD lo hi d with
    | false => exact ⟨some d, rfl⟩
    | true =>
      rw [if_pos rfl, foK_n]
      exact lf0 n lo hi low high V W S hw ds (some d)
theorem e_fate1 (n : Nat) (lo hi low high : Int) (d : D) (S : Store) : callN P (n + 3) 4 [.tup [.int lo, .int hi, .int low, .int high], .int 1, d] S = .ok (.bl (fateD low high d)) S := by
  rw [callN_eq (n + 2) _ _ (fd := ⟨3, 3, b_is_fate, true⟩) rfl rfl (Nat.le_of_ble_eq_true rfl)]
  refine end_pure (env := [some (.tup [.int lo, .int hi, .int low, .int high]), some (.int 1), some d]) ?_ rfl rfl
  show exSs (callN P (n + 2)) b_is_fate [some (.tup [.int lo, .int hi, .int low, .int high]), some (.int 1), some d] S = _
  unfold b_is_fate fateD
  have i0 : ∀ S, idxD (.tup [.int lo, .int hi, .int low, .int high]) (.int (2 * 1)) S = .ok (.int low) S := fun S => rfl
  have i1 : ∀ S, idxD (.tup [.int lo, .int hi, .int low, .int high]) (.int (2 * 1 + 1)) S = .ok (.int high) S := fun S => rfl
  have x := e_num n d low high S
  have c1 : CMulW 2 1 ∨ CMul 2 1 := cmul_small (by decide)
  generalize D.tup [.int lo, .int hi, .int low, .int high] = V at *
  generalize numD d low high = u at *
  cases hz : isNonD d <;> cases u <;> walk_at "ev*" <;> rfl
theorem lf1 (n : Nat) (lo hi low high : Int) (V : D) (W : Walk) (S : Store) (hw : W.here S) : ∀ (xs : List D) (o : Option D), ∃ e, foS (callN P (n + 1)) (.nm 3) (.cons (.ite (.and (.cons (.cmp .notN (.var 3) (.cnon)) (.cons (.not (.call 8 (.cons (.var 3) (.cons (.idx (.var 1) (.bin .mul (.cint 2) (.var 2))) (.cons (.idx (.var 1) (.bin .add (.bin .mul (.cint 2) (.var 2)) (.cint 1))) .nil))))) .nil))) (.cons (.ret (.var 2)) .nil) .nil) .nil) W xs [some V, some (.tup [.int lo, .int hi, .int low, .int high]), some (.int 1), o] S = .ok (if xs.all (fateD low high) = true then .next else .ret (.int 1), [some V, some (.tup [.int lo, .int hi, .int low, .int high]), some (.int 1), e]) S
  | [], o => ⟨o, by rw [fo_nil _ _ _ _ _ _ hw]; rfl⟩
  | d :: ds, o => by
    rw [fo_cons _ _ _ _ _ _ _ _ hw]
    show ∃ e, foT (callN P (n + 1)) (.nm 3) (.cons (.ite (.and (.cons (.cmp .notN (.var 3) (.cnon)) (.cons (.not (.call 8 (.cons (.var 3) (.cons (.idx (.var 1) (.bin .mul (.cint 2) (.var 2))) (.cons (.idx (.var 1) (.bin .add (.bin .mul (.cint 2) (.var 2)) (.cint 1))) .nil))))) .nil))) (.cons (.ret (.var 2)) .nil) .nil) .nil) W ds S (some [some V, some (.tup [.int lo, .int hi, .int low, .int high]), some (.int 1), some d]) = _
    rw [foT_some, List.all_cons]
    have i0 : ∀ S, idxD (.tup [.int lo, .int hi, .int low, .int high]) (.int (2 * 1)) S = .ok (.int low) S := fun S => rfl
    have i1 : ∀ S, idxD (.tup [.int lo, .int hi, .int low, .int high]) (.int (2 * 1 + 1)) S = .ok (.int high) S := fun S => rfl
    have x := e_lnum n d low high S
    have c1 : CMulW 2 1 ∨ CMul 2 1 := cmul_small (by decide)
    have st : exSs (callN P (n + 1)) (.cons (.ite (.and (.cons (.cmp .notN (.var 3) (.cnon)) (.cons (.not (.call 8 (.cons (.var 3) (.cons (.idx (.var 1) (.bin .mul (.cint 2) (.var 2))) (.cons (.idx (.var 1) (.bin .add (.bin .mul (.cint 2) (.var 2)) (.cint 1))) .nil))))) .nil))) (.cons (.ret (.var 2)) .nil) .nil) .nil) [some V, some (.tup [.int lo, .int hi, .int low, .int high]), some (.int 1), some d] S = .ok (if fateD low high d = true then .next else .ret (.int 1), [some V, some (.tup [.int lo, .int hi, .int low, .int high]), some (.int 1), some d]) S := by
      unfold fateD
      generalize D.tup [.int lo, .int hi, .int low, .int high] = RR at *
      generalize numD d low high = u at *
      clear hw
      cases hz : isNonD d <;> cases u <;> walk_at "ev*" <;> rfl
    rw [st, bnd_ok]
    cases fateD low high d with
    | false => exact ⟨some d, rfl⟩
    | true =>
      rw [if_pos rfl, foK_n]
      exact lf1 n lo hi low high V W S hw ds (some d)
def ccB : Ss := .cons (.ite (.or (.cons (.cmp .gt (.prim .len (.cons (.var 3) .nil)) (.gcon (PySem.Str.ofString "MOST_FATES") (.int 400))) (.cons (.not (.qual true (.call 4 (.cons (.var 1) (.cons (.var 2) (.cons (.var 4) .nil)))) (.nm 4) (.seq (.var 3)) .nil [4])) .nil))) (.cons (.ret (.tup (.cons (.cstr (PySem.Str.ofString "course")) (.cons (.var 2) .nil)))) .nil) .nil) .nil
def lcB : Ss := .cons (.ite (.cmp .gt (.prim .len (.cons (.idx (.var 0) (.var 2)) .nil)) (.cint 400)) (.cons (.ret (.var 2)) .nil) .nil) (.cons (.fo (.nm 3) (.seq (.idx (.var 0) (.var 2))) (.cons (.ite (.and (.cons (.cmp .notN (.var 3) (.cnon)) (.cons (.not (.call 8 (.cons (.var 3) (.cons (.idx (.var 1) (.bin .mul (.cint 2) (.var 2))) (.cons (.idx (.var 1) (.bin .add (.bin .mul (.cint 2) (.var 2)) (.cint 1))) .nil))))) .nil))) (.cons (.ret (.var 2)) .nil) .nil) .nil)) .nil)
theorem cc0 (n : Nat) (lo hi low high : Int) (V : D) (xs : List D) (o : Option D) (S : Store) : exSs (callN P (n + 3)) ccB [some V, some (.tup [.int lo, .int hi, .int low, .int high]), some (.int 0), some (.tup xs), o] S = .ok (flo "course" (cR xs lo hi 0), [some V, some (.tup [.int lo, .int hi, .int low, .int high]), some (.int 0), some (.tup xs), o]) S := by
  unfold ccB cR
  have q1 : qlS (callN P (n + 3)) [some V, some (.tup [.int lo, .int hi, .int low, .int high]), some (.int 0), some (.tup xs), o] true (.nm 4) [4] .nil (.call 4 (.cons (.var 1) (.cons (.var 2) (.cons (.var 4) .nil)))) ⟨xs, none⟩ xs S = .ok (.bl (xs.all (fateD lo hi))) S :=
    ql_is _ _ true (.nm 4) [4] (.call 4 (.cons (.var 1) (.cons (.var 2) (.cons (.var 4) .nil)))) ⟨xs, none⟩ S trivial (fateD lo hi) xs fun d _ => ⟨[some V, some (.tup [.int lo, .int hi, .int low, .int high]), some (.int 0), some (.tup xs), some d], rfl, by
      have := e_fate0 n lo hi low high d S
      generalize D.tup [.int lo, .int hi, .int low, .int high] = RR at *
      walk_at "ev*"⟩
  have l0 : ∀ S, primD .len [.tup xs] S = .ok (.int xs.length) S := fun S => rfl
  generalize D.tup [.int lo, .int hi, .int low, .int high] = RR at *
  generalize xs.all (fateD lo hi) = u at *
  cases hg : decide (400 < (xs.length : Int)) with
  | true =>
    generalize (xs.length : Int) = m at *
    simp only [if_true, flo]
    clear q1
    walk_at "ev*"
    all_goals rfl
  | false =>
    generalize (xs.length : Int) = m at *
    cases u <;> simp only [if_true, if_false, Bool.false_eq_true, flo] <;> walk_at "ev*" <;> rfl
theorem lc0 (n : Nat) (lo hi low high : Int) (x0 x1 : D) (xs : List D) (hx : [x0, x1][0]? = some (.tup xs)) (o : Option D) (S : Store) : ∃ o', exSs (callN P (n + 1)) lcB [some (.tup [x0, x1]), some (.tup [.int lo, .int hi, .int low, .int high]), some (.int 0), o] S = .ok (gl (cR xs lo hi 0), [some (.tup [x0, x1]), some (.tup [.int lo, .int hi, .int low, .int high]), some (.int 0), o']) S := by
  unfold lcB cR
  have ix : ∀ S, idxD (.tup [x0, x1]) (.int 0) S = .ok (.tup xs) S := fun S => by
    have : x0 = .tup xs := Option.some.inj hx
    rw [← this]
    rfl
  have l0 : ∀ S, primD .len [.tup xs] S = .ok (.int xs.length) S := fun S => rfl
  obtain ⟨e, hf⟩ := lf0 n lo hi low high (.tup [x0, x1]) ⟨xs, none⟩ S trivial xs o
  clear hx
  generalize xs.all (fateD lo hi) = u at *
  generalize D.tup [x0, x1] = V at *
  generalize D.tup [.int lo, .int hi, .int low, .int high] = RR at *
  cases hg : decide (400 < (xs.length : Int)) with
  | true =>
    refine ⟨o, ?_⟩
    clear hf
    generalize (xs.length : Int) = m at *
    simp only [if_true, gl]
    walk_at "ev*"
    all_goals rfl
  | false =>
    refine ⟨e, ?_⟩
    refine seq_eq [some V, some RR, some (.int 0), o] S (by clear hf; generalize (xs.length : Int) = m at *; walk_at "ev*"; all_goals rfl) ?_
    rw [xSs_cons, xS_fo, show evIt (callN P (n + 1)) (.seq (.idx (.var 0) (.var 2))) [some V, some RR, some (.int 0), o] S = .ok ⟨xs, none⟩ S from by clear hf; walk_at "ev*", bnd_ok]
    show (foS (callN P (n + 1)) (.nm 3) (.cons (.ite (.and (.cons (.cmp .notN (.var 3) (.cnon)) (.cons (.not (.call 8 (.cons (.var 3) (.cons (.idx (.var 1) (.bin .mul (.cint 2) (.var 2))) (.cons (.idx (.var 1) (.bin .add (.bin .mul (.cint 2) (.var 2)) (.cint 1))) .nil))))) .nil))) (.cons (.ret (.var 2)) .nil) .nil) .nil) ⟨xs, none⟩ xs [some V, some RR, some (.int 0), o] S).bnd _ = _
    rw [hf, bnd_ok]
    cases u with
    | true => simp only [if_true, Bool.false_eq_true, if_false, gl]; rw [sqK_n, xSs_nil]
    | false => simp only [Bool.false_eq_true, if_false, gl]; rw [sqK_r]
theorem cc1 (n : Nat) (lo hi low high : Int) (V : D) (xs : List D) (o : Option D) (S : Store) : exSs (callN P (n + 3)) ccB [some V, some (.tup [.int lo, .int hi, .int low, .int high]), some (.int 1), some (.tup xs), o] S = .ok (flo "course" (cR xs low high 1), [some V, some (.tup [.int lo, .int hi, .int low, .int high]), some (.int 1), some (.tup xs), o]) S := by
  unfold ccB cR
  have q1 : qlS (callN P (n + 3)) [some V, some (.tup [.int lo, .int hi, .int low, .int high]), some (.int 1), some (.tup xs), o] true (.nm 4) [4] .nil (.call 4 (.cons (.var 1) (.cons (.var 2) (.cons (.var 4) .nil)))) ⟨xs, none⟩ xs S = .ok (.bl (xs.all (fateD low high))) S :=
    ql_is _ _ true (.nm 4) [4] (.call 4 (.cons (.var 1) (.cons (.var 2) (.cons (.var 4) .nil)))) ⟨xs, none⟩ S trivial (fateD low high) xs fun d _ => ⟨[some V, some (.tup [.int lo, .int hi, .int low, .int high]), some (.int 1), some (.tup xs), some d], rfl, by
      have := e_fate1 n lo hi low high d S
      generalize D.tup [.int lo, .int hi, .int low, .int high] = RR at *
      walk_at "ev*"⟩
  have l0 : ∀ S, primD .len [.tup xs] S = .ok (.int xs.length) S := fun S => rfl
  generalize D.tup [.int lo, .int hi, .int low, .int high] = RR at *
  generalize xs.all (fateD low high) = u at *
  cases hg : decide (400 < (xs.length : Int)) with
  | true =>
    generalize (xs.length : Int) = m at *
    simp only [if_true, flo]
    clear q1
    walk_at "ev*"
    all_goals rfl
  | false =>
    generalize (xs.length : Int) = m at *
    cases u <;> simp only [if_true, if_false, Bool.false_eq_true, flo] <;> walk_at "ev*" <;> rfl
theorem lc1 (n : Nat) (lo hi low high : Int) (x0 x1 : D) (xs : List D) (hx : [x0, x1][1]? = some (.tup xs)) (o : Option D) (S : Store) : ∃ o', exSs (callN P (n + 1)) lcB [some (.tup [x0, x1]), some (.tup [.int lo, .int hi, .int low, .int high]), some (.int 1), o] S = .ok (gl (cR xs low high 1), [some (.tup [x0, x1]), some (.tup [.int lo, .int hi, .int low, .int high]), some (.int 1), o']) S := by
  unfold lcB cR
  have ix : ∀ S, idxD (.tup [x0, x1]) (.int 1) S = .ok (.tup xs) S := fun S => by
    have : x1 = .tup xs := Option.some.inj hx
    rw [← this]
    rfl
  have l0 : ∀ S, primD .len [.tup xs] S = .ok (.int xs.length) S := fun S => rfl
  obtain ⟨e, hf⟩ := lf1 n lo hi low high (.tup [x0, x1]) ⟨xs, none⟩ S trivial xs o
  clear hx
  generalize xs.all (fateD low high) = u at *
  generalize D.tup [x0, x1] = V at *
  generalize D.tup [.int lo, .int hi, .int low, .int high] = RR at *
  cases hg : decide (400 < (xs.length : Int)) with
  | true =>
    refine ⟨o, ?_⟩
    clear hf
    generalize (xs.length : Int) = m at *
    simp only [if_true, gl]
    walk_at "ev*"
    all_goals rfl
  | false =>
    refine ⟨e, ?_⟩
    refine seq_eq [some V, some RR, some (.int 1), o] S (by clear hf; generalize (xs.length : Int) = m at *; walk_at "ev*"; all_goals rfl) ?_
    rw [xSs_cons, xS_fo, show evIt (callN P (n + 1)) (.seq (.idx (.var 0) (.var 2))) [some V, some RR, some (.int 1), o] S = .ok ⟨xs, none⟩ S from by clear hf; walk_at "ev*", bnd_ok]
    show (foS (callN P (n + 1)) (.nm 3) (.cons (.ite (.and (.cons (.cmp .notN (.var 3) (.cnon)) (.cons (.not (.call 8 (.cons (.var 3) (.cons (.idx (.var 1) (.bin .mul (.cint 2) (.var 2))) (.cons (.idx (.var 1) (.bin .add (.bin .mul (.cint 2) (.var 2)) (.cint 1))) .nil))))) .nil))) (.cons (.ret (.var 2)) .nil) .nil) .nil) ⟨xs, none⟩ xs [some V, some RR, some (.int 1), o] S).bnd _ = _
    rw [hf, bnd_ok]
    cases u with
    | true => simp only [if_true, Bool.false_eq_true, if_false, gl]; rw [sqK_n, xSs_nil]
    | false => simp only [Bool.false_eq_true, if_false, gl]; rw [sqK_r]
theorem two (ds : List D) (h : (ds.length : Int) = 2) : ∃ a b, ds = [a, b] := by
  match ds, h with
  | [a, b], _ => exact ⟨a, b, rfl⟩
theorem cf_nt {v : D} {lo hi low high : Int} (h : tupN v 2 = false) : cfD lo hi low high v = some (-1) := by
  cases v with
  | tup ds =>
    match ds, h with
    | [], _ => rfl
    | [a], h1 => clear h1; cases a <;> rfl
    | [a, b], h => exact Bool.noConfusion (show true = false from h)
    | a :: b :: c :: r, h1 => clear h1; cases a <;> first | rfl | (cases b <;> rfl)
  | _ => rfl
theorem cf_0 {a b : D} {lo hi low high : Int} (h : isK .tuple (kdD a) = false) : cfD lo hi low high (.tup [a, b]) = some (-1) := by
  cases a <;> first | rfl | cases h
theorem cf_1 {a b : D} {lo hi low high : Int} (h : isK .tuple (kdD b) = false) : cfD lo hi low high (.tup [a, b]) = some (-1) := by
  cases a <;> first | rfl | (cases b <;> first | rfl | cases h)
theorem e_course (n : Nat) (lo hi low high : Int) (v : D) (S : Store) : callN P (n + 4) 24 [v, .tup [.int lo, .int hi, .int low, .int high]] S = .ok (resD "course" (cfD lo hi low high v)) S := by
  rw [callN_eq (n + 3) _ _ (fd := ⟨2, 5, b_check_course, false⟩) rfl rfl (Nat.le_of_ble_eq_true rfl)]
  suffices H : ∃ e, exSs (callN P (n + 3)) b_check_course [some v, some (.tup [.int lo, .int hi, .int low, .int high]), none, none, none] S = .ok (flo "course" (cfD lo hi low high v), e) S by
    obtain ⟨e, h⟩ := H
    exact end_fl h rfl
  unfold b_check_course
  have x1 := e_tup (n + 2) v 2 S
  cases h2 : tupN v 2 with
  | false =>
    rw [cf_nt h2]
    rw [h2] at x1
    refine ⟨[some v, some (.tup [.int lo, .int hi, .int low, .int high]), none, none, none], ?_⟩
    generalize D.tup [.int lo, .int hi, .int low, .int high] = RR at *
    simp only [flo]
    walk_at "ev*"
    all_goals rfl
  | true =>
    rw [h2] at x1
    obtain ⟨ds, rfl⟩ : ∃ ds, v = .tup ds := by cases v <;> first | exact ⟨_, rfl⟩ | cases h2
    obtain ⟨a, b, rfl⟩ := two ds (of_decide_eq_true h2)
    clear h2
    have i0 : ∀ S, idxD (.tup [a, b]) (.int 0) S = .ok a S := fun S => rfl
    have i1 : ∀ S, idxD (.tup [a, b]) (.int 1) S = .ok b S := fun S => rfl
    cases ha : isK .tuple (kdD a) with
    | false =>
      rw [cf_0 ha]
      refine ⟨[some (.tup [a, b]), some (.tup [.int lo, .int hi, .int low, .int high]), none, none, none], ?_⟩
      generalize D.tup [.int lo, .int hi, .int low, .int high] = RR at *
      generalize D.tup [a, b] = V at *
      simp only [flo]
      walk_at "ev*"
      all_goals rfl
    | true =>
      cases hb : isK .tuple (kdD b) with
      | false =>
        rw [cf_1 hb]
        refine ⟨[some (.tup [a, b]), some (.tup [.int lo, .int hi, .int low, .int high]), none, none, none], ?_⟩
        generalize D.tup [.int lo, .int hi, .int low, .int high] = RR at *
        generalize D.tup [a, b] = V at *
        simp only [flo]
        walk_at "ev*"
        all_goals rfl
      | true =>
        obtain ⟨xs, rfl⟩ := tup_k ha
        obtain ⟨ys, rfl⟩ := tup_k hb
        have k0 : ∀ l, isK .tuple (kdD (.tup l)) = true := fun _ => rfl
        clear ha hb
        have c0 := cc0 n lo hi low high (.tup [.tup xs, .tup ys]) xs none S
        have c1 := cc1 n lo hi low high (.tup [.tup xs, .tup ys]) ys none S
        unfold ccB at c0 c1
        show ∃ e, _ = Res.ok (flo "course" ((cR xs lo hi 0).or (cR ys low high 1)), e) S
        refine seq_ex (Q := fun r => ∃ e, r = .ok (flo "course" ((cR xs lo hi 0).or (cR ys low high 1)), e) S) [some (.tup [.tup xs, .tup ys]), some (.tup [.int lo, .int hi, .int low, .int high]), none, none, none] S (by
          clear c0 c1
          generalize D.tup [.int lo, .int hi, .int low, .int high] = RR at *
          generalize D.tup [.tup xs, .tup ys] = V at *
          walk_at "ev*"
          all_goals rfl) ?_
        rw [xSs_cons, xS_fo, show evIt (callN P (n + 3)) (.enum (.var 0)) [some (.tup [.tup xs, .tup ys]), some (.tup [.int lo, .int hi, .int low, .int high]), none, none, none] S = .ok ⟨[.tup [.int 0, .tup xs], .tup [.int 1, .tup ys]], none⟩ S from rfl, bnd_ok]
        show ∃ e, (foS (callN P (n + 3)) (.tp (.cons (.nm 2) (.cons (.nm 3) .nil))) (.cons (.ite (.or (.cons (.cmp .gt (.prim .len (.cons (.var 3) .nil)) (.gcon (PySem.Str.ofString "MOST_FATES") (.int 400))) (.cons (.not (.qual true (.call 4 (.cons (.var 1) (.cons (.var 2) (.cons (.var 4) .nil)))) (.nm 4) (.seq (.var 3)) .nil [4])) .nil))) (.cons (.ret (.tup (.cons (.cstr (PySem.Str.ofString "course")) (.cons (.var 2) .nil)))) .nil) .nil) .nil) ⟨[.tup [.int 0, .tup xs], .tup [.int 1, .tup ys]], none⟩ [.tup [.int 0, .tup xs], .tup [.int 1, .tup ys]] [some (.tup [.tup xs, .tup ys]), some (.tup [.int lo, .int hi, .int low, .int high]), none, none, none] S).bnd _ = _
        rw [fo_cons _ _ _ _ _ _ _ _ (here_none _ _)]
        show ∃ e, (foT (callN P (n + 3)) (.tp (.cons (.nm 2) (.cons (.nm 3) .nil))) (.cons (.ite (.or (.cons (.cmp .gt (.prim .len (.cons (.var 3) .nil)) (.gcon (PySem.Str.ofString "MOST_FATES") (.int 400))) (.cons (.not (.qual true (.call 4 (.cons (.var 1) (.cons (.var 2) (.cons (.var 4) .nil)))) (.nm 4) (.seq (.var 3)) .nil [4])) .nil))) (.cons (.ret (.tup (.cons (.cstr (PySem.Str.ofString "course")) (.cons (.var 2) .nil)))) .nil) .nil) .nil) ⟨[.tup [.int 0, .tup xs], .tup [.int 1, .tup ys]], none⟩ [.tup [.int 1, .tup ys]] S (some [some (.tup [.tup xs, .tup ys]), some (.tup [.int lo, .int hi, .int low, .int high]), some (.int 0), some (.tup xs), none])).bnd _ = _
        rw [foT_some, c0, bnd_ok]
        cases h0 : cR xs lo hi 0 with
        | some k => exact ⟨_, rfl⟩
        | none =>
          simp only [flo]
          rw [foK_n, fo_cons _ _ _ _ _ _ _ _ (here_none _ _)]
          show ∃ e, (foT (callN P (n + 3)) (.tp (.cons (.nm 2) (.cons (.nm 3) .nil))) (.cons (.ite (.or (.cons (.cmp .gt (.prim .len (.cons (.var 3) .nil)) (.gcon (PySem.Str.ofString "MOST_FATES") (.int 400))) (.cons (.not (.qual true (.call 4 (.cons (.var 1) (.cons (.var 2) (.cons (.var 4) .nil)))) (.nm 4) (.seq (.var 3)) .nil [4])) .nil))) (.cons (.ret (.tup (.cons (.cstr (PySem.Str.ofString "course")) (.cons (.var 2) .nil)))) .nil) .nil) .nil) ⟨[.tup [.int 0, .tup xs], .tup [.int 1, .tup ys]], none⟩ [] S (some [some (.tup [.tup xs, .tup ys]), some (.tup [.int lo, .int hi, .int low, .int high]), some (.int 1), some (.tup ys), none])).bnd _ = _
          rw [foT_some, c1, bnd_ok]
          cases h1 : cR ys low high 1 with
          | some k => exact ⟨_, rfl⟩
          | none =>
            simp only [flo]
            rw [foK_n, fo_nil _ _ _ _ _ _ (here_none _ _), bnd_ok, sqK_n, xSs_nil]
            exact ⟨_, rfl⟩
theorem e_lcourse (n : Nat) (lo hi low high : Int) (v : D) (S : Store) : callN P (n + 2) 11 [v, .tup [.int lo, .int hi, .int low, .int high]] S = .ok (resL (cfD lo hi low high v)) S := by
  rw [callN_eq (n + 1) _ _ (fd := ⟨2, 4, b__law_course_fault, true⟩) rfl rfl (Nat.le_of_ble_eq_true rfl)]
  suffices H : ∃ e, exSs (callN P (n + 1)) b__law_course_fault [some v, some (.tup [.int lo, .int hi, .int low, .int high]), none, none] S = .ok (.ret (resL (cfD lo hi low high v)), e) S by
    obtain ⟨e, h⟩ := H
    exact end_pure h rfl (by cases cfD lo hi low high v <;> rfl)
  unfold b__law_course_fault
  cases h0 : isK .tuple (kdD v) with
  | false =>
    rw [cf_nt (tupN_k h0 2)]
    refine ⟨[some v, some (.tup [.int lo, .int hi, .int low, .int high]), none, none], ?_⟩
    generalize D.tup [.int lo, .int hi, .int low, .int high] = RR at *
    simp only [resL]
    walk_at "ev*"
    all_goals rfl
  | true =>
    obtain ⟨ds, rfl⟩ := tup_k h0
    cases h2 : decide ((ds.length : Int) = 2) with
    | false =>
      rw [cf_nt (show tupN (.tup ds) 2 = false from h2)]
      refine ⟨[some (.tup ds), some (.tup [.int lo, .int hi, .int low, .int high]), none, none], ?_⟩
      have l0 : primD .len [.tup ds] S = .ok (.int ds.length) S := rfl
      have ne : cmpD .ne (.int ds.length) (.int 2) S = some true := by
        show (eqD (.int ds.length) (.int 2) S).map (!·) = _
        rw [q_int, h2]; rfl
      generalize (ds.length : Int) = m at *
      generalize D.tup ds = V at *
      generalize D.tup [.int lo, .int hi, .int low, .int high] = RR at *
      clear h2
      simp only [resL]
      walk_at "ev*"
    | true =>
      obtain ⟨a, b, rfl⟩ := two ds (of_decide_eq_true h2)
      clear h2
      have i0 : ∀ S, idxD (.tup [a, b]) (.int 0) S = .ok a S := fun S => rfl
      have i1 : ∀ S, idxD (.tup [a, b]) (.int 1) S = .ok b S := fun S => rfl
      have l0 : ∀ S, primD .len [.tup [a, b]] S = .ok (.int 2) S := fun S => rfl
      cases ha : isK .tuple (kdD a) with
      | false =>
        rw [cf_0 ha]
        refine ⟨[some (.tup [a, b]), some (.tup [.int lo, .int hi, .int low, .int high]), none, none], ?_⟩
        generalize D.tup [.int lo, .int hi, .int low, .int high] = RR at *
        generalize D.tup [a, b] = V at *
        simp only [resL]
        walk_at "ev*"
        all_goals rfl
      | true =>
        cases hb : isK .tuple (kdD b) with
        | false =>
          rw [cf_1 hb]
          refine ⟨[some (.tup [a, b]), some (.tup [.int lo, .int hi, .int low, .int high]), none, none], ?_⟩
          generalize D.tup [.int lo, .int hi, .int low, .int high] = RR at *
          generalize D.tup [a, b] = V at *
          simp only [resL]
          walk_at "ev*"
          all_goals rfl
        | true =>
          obtain ⟨xs, rfl⟩ := tup_k ha
          obtain ⟨ys, rfl⟩ := tup_k hb
          have k0 : ∀ l, isK .tuple (kdD (.tup l)) = true := fun _ => rfl
          clear ha hb
          obtain ⟨o1, c0⟩ := lc0 n lo hi low high (.tup xs) (.tup ys) xs rfl none S
          obtain ⟨o2, c1⟩ := lc1 n lo hi low high (.tup xs) (.tup ys) ys rfl o1 S
          unfold lcB at c0 c1
          show ∃ e, _ = Res.ok (SX.Flow.ret (resL ((cR xs lo hi 0).or (cR ys low high 1))), e) S
          refine seq_ex (Q := fun r => ∃ e, r = .ok (.ret (resL ((cR xs lo hi 0).or (cR ys low high 1))), e) S) [some (.tup [.tup xs, .tup ys]), some (.tup [.int lo, .int hi, .int low, .int high]), none, none] S (by
            clear c0 c1
            generalize D.tup [.int lo, .int hi, .int low, .int high] = RR at *
            generalize D.tup [.tup xs, .tup ys] = V at *
            walk_at "ev*"
            all_goals rfl) ?_
          rw [xSs_cons, xS_fo, show evIt (callN P (n + 1)) (.range1 (.cint 2)) [some (.tup [.tup xs, .tup ys]), some (.tup [.int lo, .int hi, .int low, .int high]), none, none] S = .ok ⟨[.int 0, .int 1], none⟩ S from by
            have r2 : R62 2 := ⟨by decide, by decide⟩
            rw [vI_range1, vE_int, bnd_ok, rg1_int S r2]
            rfl, bnd_ok]
          show ∃ e, (foS (callN P (n + 1)) (.nm 2) (.cons (.ite (.cmp .gt (.prim .len (.cons (.idx (.var 0) (.var 2)) .nil)) (.cint 400)) (.cons (.ret (.var 2)) .nil) .nil) (.cons (.fo (.nm 3) (.seq (.idx (.var 0) (.var 2))) (.cons (.ite (.and (.cons (.cmp .notN (.var 3) (.cnon)) (.cons (.not (.call 8 (.cons (.var 3) (.cons (.idx (.var 1) (.bin .mul (.cint 2) (.var 2))) (.cons (.idx (.var 1) (.bin .add (.bin .mul (.cint 2) (.var 2)) (.cint 1))) .nil))))) .nil))) (.cons (.ret (.var 2)) .nil) .nil) .nil)) .nil)) ⟨[.int 0, .int 1], none⟩ [.int 0, .int 1] [some (.tup [.tup xs, .tup ys]), some (.tup [.int lo, .int hi, .int low, .int high]), none, none] S).bnd _ = _
          rw [fo_cons _ _ _ _ _ _ _ _ (here_none _ _)]
          show ∃ e, (foT (callN P (n + 1)) (.nm 2) (.cons (.ite (.cmp .gt (.prim .len (.cons (.idx (.var 0) (.var 2)) .nil)) (.cint 400)) (.cons (.ret (.var 2)) .nil) .nil) (.cons (.fo (.nm 3) (.seq (.idx (.var 0) (.var 2))) (.cons (.ite (.and (.cons (.cmp .notN (.var 3) (.cnon)) (.cons (.not (.call 8 (.cons (.var 3) (.cons (.idx (.var 1) (.bin .mul (.cint 2) (.var 2))) (.cons (.idx (.var 1) (.bin .add (.bin .mul (.cint 2) (.var 2)) (.cint 1))) .nil))))) .nil))) (.cons (.ret (.var 2)) .nil) .nil) .nil)) .nil)) ⟨[.int 0, .int 1], none⟩ [.int 1] S (some [some (.tup [.tup xs, .tup ys]), some (.tup [.int lo, .int hi, .int low, .int high]), some (.int 0), none])).bnd _ = _
          rw [foT_some, c0, bnd_ok]
          cases h0 : cR xs lo hi 0 with
          | some k => exact ⟨_, rfl⟩
          | none =>
            simp only [gl]
            rw [foK_n, fo_cons _ _ _ _ _ _ _ _ (here_none _ _)]
            show ∃ e, (foT (callN P (n + 1)) (.nm 2) (.cons (.ite (.cmp .gt (.prim .len (.cons (.idx (.var 0) (.var 2)) .nil)) (.cint 400)) (.cons (.ret (.var 2)) .nil) .nil) (.cons (.fo (.nm 3) (.seq (.idx (.var 0) (.var 2))) (.cons (.ite (.and (.cons (.cmp .notN (.var 3) (.cnon)) (.cons (.not (.call 8 (.cons (.var 3) (.cons (.idx (.var 1) (.bin .mul (.cint 2) (.var 2))) (.cons (.idx (.var 1) (.bin .add (.bin .mul (.cint 2) (.var 2)) (.cint 1))) .nil))))) .nil))) (.cons (.ret (.var 2)) .nil) .nil) .nil)) .nil)) ⟨[.int 0, .int 1], none⟩ [] S (some [some (.tup [.tup xs, .tup ys]), some (.tup [.int lo, .int hi, .int low, .int high]), some (.int 1), o1])).bnd _ = _
            rw [foT_some, c1, bnd_ok]
            cases h1 : cR ys low high 1 with
            | some k => exact ⟨_, rfl⟩
            | none =>
              simp only [gl]
              rw [foK_n, fo_nil _ _ _ _ _ _ (here_none _ _), bnd_ok, sqK_n]
              refine ⟨[some (.tup [.tup xs, .tup ys]), some (.tup [.int lo, .int hi, .int low, .int high]), some (.int 1), o2], ?_⟩
              clear c0 c1
              show _ = Res.ok (SX.Flow.ret .non, _) S
              walk_at "ev*"
end
end LW
namespace LW
open PySem PySem.Spec PyProof.Rows L2 SX
noncomputable section
open Classical
local macro_rules | `(tactic| walk_at "ev") => `(tactic| simp (config := { maxSteps := 3000000 }) (disch := first | assumption | omega | exact ⟨by omega, by omega⟩ | exact ⟨⟨by omega, by omega⟩, ⟨by omega, by omega⟩⟩ | exact Nat.le_of_ble_eq_true rfl | decide) only [bnd_ok, bnd_bad, binJ_eq, binK_eq, notK_eq, cmpJ_eq, cmpK_eq, idxJ_eq, idxK_eq, calJ_eq, clkJ_eq, clkK_eq, priJ_eq, isiJ_eq, metJ_eq, metI_t, metK_eq, lcJ_eq, lcK_eq, conJ_eq, conK_eq, andJ_eq, orJ_eq, rg2J_eq, nxtK_eq, setI1_eq, setI2_eq, setI3_eq, retK_eq,  vE_var, varK_ok, vE_int, vE_bl, vE_non, vE_str, vE_tup, vE_lst, vE_bin, vE_neg, vE_not, vE_and, vE_or, vE_cmp, vE_ite, brE_t, brE_f, vE_idx, vE_slc, ab_c, ab_v, ab_b, ab_a, optI_int, if_ft, if_tt, s_tup, vE_call, vE_callk, vE_prim, vE_isin, vE_meth, vE_lc, vE_gcon, toD_int, toD_strs, vE_chain, chnI_eq, chnK_eq, chnJ_t, chnJ_f, vE_tupG, tgJ_eq, tgK_eq, vE_qual, qlK_eq, vE_sumG, smK_eq, vE_lc2, l2K_eq, vEs_nil, vEs_cons, vA_one, vA_cons, vO_one, vO_cons, andK_t, andK_f, orK_t, orK_f, vT_nil, vT_cons, vI_seq, seqK_tup, seqK_rls, seqK_loc, seqL_ok, vI_enum, enK_eq, vI_zip, zpJ_eq, zpK_eq, vI_range1, rg1_int, vI_range2, rg2_int,
  xS_asg, asgK_nm, asgT_nm, asgT_tp2, asgT_tp3, asgK_tp2, asgK_tp3, xS_par, parK_2, parK_3, xS_setS, xS_aug, augV_ok, augK_add, augK_sub, xS_augS, agR_some, agD_eq, agX_eq, agI_eq, agO_eq, idxM_loc, augD_add, augD_sub, xS_expr, xS_ret, xS_retN, xS_ite, brS_t, brS_f, xS_wh, whB_t, whB_f, whK_n, whK_c, whK_b, whK_r, xS_fo, foT_some, foK_n, foK_c, foK_b, foK_r, xS_brk, xS_cont, xS_pass, xS_callx, flX_non, flX_tup, xS_tryx, xS_retx, rtX_non, rtX_tup, xSs_nil, xSs_cons, sqK_n, sqK_r, sqK_b, sqK_c,
  b_add, b_sub, b_mul, b_mulL, b_mulR, b_fdiv, b_mod, b_pow, b_addT, b_addL, addL_ok, b_repT, k_lt, k_le, k_gt, k_ge, k_eq, k_ne, k_isN, k_notN, k_in, k_nin, tr_str, q_int, q_bl, q_str, ofB_some, Option.map_some, tr_bl, tr_int, tr_non, tr_tup, tr_loc, trK_ok, td_bl, td_int, td_tup, i_tup, i_rls, i_loc, idxL_ok, okV_some, at0, at1, at2, at3, at_m1, tupK_ok, lstK_ok, negK_int, p_abs, p_int, p_intB, p_lenT, p_lenR, p_lenL, lenL_ok, p_sorted, p_sum, intsL_ok, allInt_map, srtI_ok, smI_ok, p_max, p_min, p_tupT, p_tupL, tupL_ok, p_lstT, p_lstL, lstL_ok, isD_ok, m_app, appL_ok, m_pop, popL_ok, m_rev, revL_ok, recv_ok, recvL_ok, set_loc, setL_ok, setI_ok, new_eq, Bool.not_true, Bool.not_false, if_true, eq_self, decide_true, decide_false,
  List.set_cons_zero, List.set_cons_succ, List.getElem?_cons_zero, List.getElem?_cons_succ, List.length_cons, List.length_nil, Option.some.injEq])
local macro_rules | `(tactic| walk_at "ev*") => `(tactic| simp (config := { maxSteps := 3000000 }) (disch := first | assumption | omega | exact ⟨by omega, by omega⟩ | exact ⟨⟨by omega, by omega⟩, ⟨by omega, by omega⟩⟩ | exact Nat.le_of_ble_eq_true rfl | decide) only [bnd_ok, bnd_bad, binJ_eq, binK_eq, notK_eq, cmpJ_eq, cmpK_eq, idxJ_eq, idxK_eq, calJ_eq, clkJ_eq, clkK_eq, priJ_eq, isiJ_eq, metJ_eq, metI_t, metK_eq, lcJ_eq, lcK_eq, conJ_eq, conK_eq, andJ_eq, orJ_eq, rg2J_eq, nxtK_eq, setI1_eq, setI2_eq, setI3_eq, retK_eq,  vE_var, varK_ok, vE_int, vE_bl, vE_non, vE_str, vE_tup, vE_lst, vE_bin, vE_neg, vE_not, vE_and, vE_or, vE_cmp, vE_ite, brE_t, brE_f, vE_idx, vE_slc, ab_c, ab_v, ab_b, ab_a, optI_int, if_ft, if_tt, s_tup, vE_call, vE_callk, vE_prim, vE_isin, vE_meth, vE_lc, vE_gcon, toD_int, toD_strs, vE_chain, chnI_eq, chnK_eq, chnJ_t, chnJ_f, vE_tupG, tgJ_eq, tgK_eq, vE_qual, qlK_eq, vE_sumG, smK_eq, vE_lc2, l2K_eq, vEs_nil, vEs_cons, vA_one, vA_cons, vO_one, vO_cons, andK_t, andK_f, orK_t, orK_f, vT_nil, vT_cons, vI_seq, seqK_tup, seqK_rls, seqK_loc, seqL_ok, vI_enum, enK_eq, vI_zip, zpJ_eq, zpK_eq, vI_range1, rg1_int, vI_range2, rg2_int,
  xS_asg, asgK_nm, asgT_nm, asgT_tp2, asgT_tp3, asgK_tp2, asgK_tp3, xS_par, parK_2, parK_3, xS_setS, xS_aug, augV_ok, augK_add, augK_sub, xS_augS, agR_some, agD_eq, agX_eq, agI_eq, agO_eq, idxM_loc, augD_add, augD_sub, xS_expr, xS_ret, xS_retN, xS_ite, brS_t, brS_f, xS_wh, whB_t, whB_f, whK_n, whK_c, whK_b, whK_r, xS_fo, foT_some, foK_n, foK_c, foK_b, foK_r, xS_brk, xS_cont, xS_pass, xS_callx, flX_non, flX_tup, xS_tryx, xS_retx, rtX_non, rtX_tup, xSs_nil, xSs_cons, sqK_n, sqK_r, sqK_b, sqK_c,
  b_add, b_sub, b_mul, b_mulL, b_mulR, b_fdiv, b_mod, b_pow, b_addT, b_addL, addL_ok, b_repT, k_lt, k_le, k_gt, k_ge, k_eq, k_ne, k_isN, k_notN, k_in, k_nin, tr_str, q_int, q_bl, q_str, ofB_some, Option.map_some, tr_bl, tr_int, tr_non, tr_tup, tr_loc, trK_ok, td_bl, td_int, td_tup, i_tup, i_rls, i_loc, idxL_ok, okV_some, at0, at1, at2, at3, at_m1, tupK_ok, lstK_ok, negK_int, p_abs, p_int, p_intB, p_lenT, p_lenR, p_lenL, lenL_ok, p_sorted, p_sum, intsL_ok, allInt_map, srtI_ok, smI_ok, p_max, p_min, p_tupT, p_tupL, tupL_ok, p_lstT, p_lstL, lstL_ok, isD_ok, m_app, appL_ok, m_pop, popL_ok, m_rev, revL_ok, recv_ok, recvL_ok, set_loc, setL_ok, setI_ok, new_eq, Bool.not_true, Bool.not_false, if_true, eq_self, decide_true, decide_false,
  List.set_cons_zero, List.set_cons_succ, List.getElem?_cons_zero, List.getElem?_cons_succ, List.length_cons, List.length_nil, Option.some.injEq, *])
local macro_rules | `(tactic| walk_at "evs") => `(tactic| simp (config := { maxSteps := 3000000 }) (disch := first | assumption | omega | exact ⟨by omega, by omega⟩ | exact ⟨⟨by omega, by omega⟩, ⟨by omega, by omega⟩⟩ | exact Nat.le_of_ble_eq_true rfl | decide) only [bnd_ok, bnd_bad, binJ_eq, binK_eq, notK_eq, cmpJ_eq, cmpK_eq, idxJ_eq, idxK_eq, calJ_eq, clkJ_eq, clkK_eq, priJ_eq, isiJ_eq, metJ_eq, metI_t, metK_eq, lcJ_eq, lcK_eq, conJ_eq, conK_eq, andJ_eq, orJ_eq, rg2J_eq, nxtK_eq, setI1_eq, setI2_eq, setI3_eq, retK_eq,  vE_var, varK_ok, vE_int, vE_bl, vE_non, vE_str, vE_tup, vE_lst, vE_bin, vE_neg, vE_not, vE_and, vE_or, vE_cmp, vE_ite, brE_t, brE_f, vE_idx, vE_slc, ab_c, ab_v, ab_b, ab_a, optI_int, if_ft, if_tt, s_tup, vE_call, vE_callk, vE_prim, vE_isin, vE_meth, vE_lc, vE_gcon, toD_int, toD_strs, vE_chain, chnI_eq, chnK_eq, chnJ_t, chnJ_f, vE_tupG, tgJ_eq, tgK_eq, vE_qual, qlK_eq, vE_sumG, smK_eq, vE_lc2, l2K_eq, vEs_nil, vEs_cons, vA_one, vA_cons, vO_one, vO_cons, andK_t, andK_f, orK_t, orK_f, vT_nil, vT_cons, vI_seq, seqK_tup, seqK_rls, seqK_loc, seqL_ok, vI_enum, enK_eq, vI_zip, zpJ_eq, zpK_eq, vI_range1, rg1_int, vI_range2, rg2_int,
  xS_asg, asgK_nm, asgT_nm, asgT_tp2, asgT_tp3, asgK_tp2, asgK_tp3, xS_par, parK_2, parK_3, xS_setS, xS_aug, augV_ok, augK_add, augK_sub, xS_augS, agR_some, agD_eq, agX_eq, agI_eq, agO_eq, idxM_loc, augD_add, augD_sub, xS_expr, xS_ret, xS_retN, xS_ite, brS_t, brS_f, xS_wh, whB_t, whB_f, whK_n, whK_c, whK_b, whK_r, xS_fo, foT_some, foK_n, foK_c, foK_b, foK_r, xS_brk, xS_cont, xS_pass, xS_callx, flX_non, flX_tup, xS_tryx, xS_retx, rtX_non, rtX_tup, xSs_nil, xSs_cons, sqK_n, sqK_r, sqK_b, sqK_c,
  b_add, b_sub, b_mul, b_mulL, b_mulR, b_fdiv, b_mod, b_pow, b_addT, b_addL, addL_ok, b_repT, k_lt, k_le, k_gt, k_ge, k_eq, k_ne, k_isN, k_notN, k_in, k_nin, tr_str, q_int, q_bl, q_str, ofB_some, Option.map_some, tr_bl, tr_int, tr_non, tr_tup, tr_loc, trK_ok, td_bl, td_int, td_tup, i_tup, i_rls, i_loc, idxL_ok, okV_some, at0, at1, at2, at3, at_m1, tupK_ok, lstK_ok, negK_int, p_abs, p_int, p_intB, p_lenT, p_lenR, p_lenL, lenL_ok, p_sorted, p_sum, intsL_ok, allInt_map, srtI_ok, smI_ok, p_max, p_min, p_tupT, p_tupL, tupL_ok, p_lstT, p_lstL, lstL_ok, isD_ok, m_app, appL_ok, m_pop, popL_ok, m_rev, revL_ok, recv_ok, recvL_ok, set_loc, setL_ok, setI_ok, new_eq, Bool.not_true, Bool.not_false, if_true, eq_self, decide_true, decide_false,
  List.set_cons_zero, List.set_cons_succ, List.getElem?_cons_zero, List.getElem?_cons_succ, List.length_cons, List.length_nil, Option.some.injEq, List.cons_append, List.nil_append, List.append_assoc, Nat.reduceAdd, st_get, st_get0, st_set, st_set0, List.length_append, Nat.add_zero, Nat.zero_add, *])

/-! ### what was seen -/
theorem sz_ok (w : Str) (hw : w.length ≤ 1000) (k : Int) (h1 : -1 ≤ k) (h2 : k ≤ 12) : BpSz w k := by
  have : k = -1 ∨ k = 0 ∨ k = 1 ∨ k = 2 ∨ k = 3 ∨ k = 4 ∨ k = 5 ∨ k = 6 ∨ k = 7 ∨ k = 8 ∨ k = 9 ∨ k = 10 ∨ k = 11 ∨ k = 12 := by omega
  rcases this with rfl | rfl | rfl | rfl | rfl | rfl | rfl | rfl | rfl | rfl | rfl | rfl | rfl | rfl <;> exact ⟨hw, by decide +kernel, by decide +kernel⟩
def seenD (w : Str) : Option Int → D
  | none => .tup [.int 0, .non]
  | some k => .tup [.str w, .int k]
theorem rt_seen (w : Str) (o : Option Int) (S : Store) (hz : ∀ k, o = some k → BpSz w k) : ∀ env, rtX (.int 0) env (resD w o) S = .ok (.ret (seenD w o), env) S := fun env => by
  cases o with
  | none => rfl
  | some k => exact rtX_tup _ _ _ (hz k rfl)
theorem e_seenD (n : Nat) (v : D) (byn : Bool) (w : Str) (o : Option Int) (S : Store) (hc : callN P n 23 [v] S = .ok (resD w o) S) (hz : ∀ k, o = some k → BpSz w k) : callN P (n + 1) 19 [v, .bl byn] S = .ok (seenD w o) S := by
  rw [callN_eq n _ _ (fd := ⟨2, 3, b__law_seen_data, true⟩) rfl rfl (Nat.le_of_ble_eq_true rfl)]
  refine end_pure (env := [some v, some (.bl byn), none]) ?_ rfl (by cases o <;> rfl)
  show exSs (callN P n) b__law_seen_data [some v, some (.bl byn), none] S = _
  have rt := rt_seen w o S hz
  have pm : permD [0] [v] = [v] := rfl
  unfold b__law_seen_data
  generalize seenD w o = sd at *
  generalize resD w o = rd at *
  clear hz
  cases byn <;> walk_at "ev*" <;> simp only [if_true, if_false, Bool.false_eq_true, vEs_cons, vEs_nil] <;> walk_at "ev*"
theorem e_seenC (n : Nat) (v RR : D) (byn : Bool) (w : Str) (o : Option Int) (S : Store) (hc : callN P n 24 [v, RR] S = .ok (resD w o) S) (hz : ∀ k, o = some k → BpSz w k) : callN P (n + 1) 20 [v, RR, .bl byn] S = .ok (seenD w o) S := by
  rw [callN_eq n _ _ (fd := ⟨3, 4, b__law_seen_course, true⟩) rfl rfl (Nat.le_of_ble_eq_true rfl)]
  refine end_pure (env := [some v, some RR, some (.bl byn), none]) ?_ rfl (by cases o <;> rfl)
  show exSs (callN P n) b__law_seen_course [some v, some RR, some (.bl byn), none] S = _
  have rt := rt_seen w o S hz
  have pm : permD [1, 0] [RR, v] = [v, RR] := rfl
  unfold b__law_seen_course
  generalize seenD w o = sd at *
  generalize resD w o = rd at *
  clear hz
  cases byn <;> walk_at "ev*" <;> simp only [if_true, if_false, Bool.false_eq_true, vEs_cons, vEs_nil] <;> walk_at "ev*"
theorem eq_pair (w : Str) (k : Int) (S : Store) (hw : PyData.strOk w = true) : eqD (.tup [.str w, .int k]) (.tup [.str w, .int k]) S = some true := by
  unfold eqD
  have h : scalD (.tup [.str w, .int k]) (.tup [.str w, .int k]) = none := rfl
  have e1 : pyT (.tup [.str w, .int k]) S = some (.tuple [.str w, .int k]) := rfl
  rw [h]
  dsimp only
  rw [e1]
  dsimp only
  have s1 : SeqAt.shaped (.tuple [.str w, .int k]) = true := by
    unfold SeqAt.shaped
    have h3 : PyData.canLay0 (.tuple [.str w, .int k]) = true := by simp [PyData.canLay0, PyData.canLayAll0, hw]
    have h4 : PyData.depth (.tuple [.str w, .int k]) ≤ 64 := by simp [PyData.depth, PyData.depthAll]
    rw [h3, decide_eq_true h4]
    rfl
  rw [if_pos ⟨s1, s1⟩]
  simp [PyData.eqv, PyData.eqvAll]
theorem e_due (n : Nat) (w : Str) (hw : PyData.strOk w = true) (o : Option Int) (S : Store) : callN P (n + 1) 21 [seenD w o, .str w, resL o] S = .ok (.bl true) S := by
  rw [callN_eq n _ _ (fd := ⟨3, 3, b__law_is_due, true⟩) rfl rfl (Nat.le_of_ble_eq_true rfl)]
  refine end_pure (env := [some (seenD w o), some (.str w), some (resL o)]) ?_ rfl rfl
  show exSs (callN P n) b__law_is_due [some (seenD w o), some (.str w), some (resL o)] S = _
  unfold b__law_is_due
  cases o with
  | none =>
    have k1 : isK .int (kdD (.int 0)) = true := rfl
    have n1 : isNonD .non = true := rfl
    have i0 : ∀ S, idxD (.tup [.int 0, .non]) (.int 0) S = .ok (.int 0) S := fun S => rfl
    have i1 : ∀ S, idxD (.tup [.int 0, .non]) (.int 1) S = .ok .non S := fun S => rfl
    unfold resL seenD
    clear hw
    walk_at "ev*"
  | some k =>
    have n1 : isNonD (.int k) = false := rfl
    have k1 : isK .bool (kdD (.int k)) = false := rfl
    have k2 : isK .int (kdD (.int k)) = true := rfl
    have k3 : isK .str (kdD (.str w)) = true := rfl
    have i0 : ∀ S, idxD (.tup [.str w, .int k]) (.int 0) S = .ok (.str w) S := fun S => rfl
    have i1 : ∀ S, idxD (.tup [.str w, .int k]) (.int 1) S = .ok (.int k) S := fun S => rfl
    have q := eq_pair w k S hw
    unfold resL seenD
    clear hw
    walk_at "ev*"
/-! ### both are alike -/
theorem due_data (n : Nat) (v : D) (byn : Bool) (S : Store) (hv : Dk 4 v) (hl : ∀ ds, v = .tup ds → ds.length ≤ 1000) :
    callN P (n + 5) 19 [v, .bl byn] S = .ok (seenD "data" (dfD v)) S ∧ callN P (n + 5) 10 [v] S = .ok (resL (dfD v)) S :=
  ⟨e_seenD (n + 4) v byn "data" _ S (e_data n v S) fun k hk => by
    obtain ⟨a, b⟩ := dfD_rng v k hk
    exact sz_ok _ (by decide +kernel) k a b, e_ldata (n + 2) v S hv hl⟩
theorem due_course (n : Nat) (lo hi low high : Int) (v : D) (byn : Bool) (S : Store) :
    callN P (n + 5) 20 [v, .tup [.int lo, .int hi, .int low, .int high], .bl byn] S = .ok (seenD "course" (cfD lo hi low high v)) S ∧ callN P (n + 5) 11 [v, .tup [.int lo, .int hi, .int low, .int high]] S = .ok (resL (cfD lo hi low high v)) S :=
  ⟨e_seenC (n + 4) v _ byn "course" _ S (e_course n lo hi low high v S) fun k hk => by
    obtain ⟨a, b⟩ := cfD_rng lo hi low high v k hk
    exact sz_ok _ (by decide +kernel) k a b, e_lcourse (n + 3) lo hi low high v S⟩
end
end LW
namespace LW
open PySem PySem.Spec PyProof.Rows L2 SX
noncomputable section
open Classical
local macro_rules | `(tactic| walk_at "ev") => `(tactic| simp (config := { maxSteps := 3000000 }) (disch := first | assumption | omega | exact ⟨by omega, by omega⟩ | exact ⟨⟨by omega, by omega⟩, ⟨by omega, by omega⟩⟩ | exact Nat.le_of_ble_eq_true rfl | decide) only [Int.reduceEq, wp_ok, bnd_ok, bnd_bad, binJ_eq, binK_eq, notK_eq, cmpJ_eq, cmpK_eq, idxJ_eq, idxK_eq, calJ_eq, clkJ_eq, clkK_eq, priJ_eq, isiJ_eq, metJ_eq, metI_t, metK_eq, lcJ_eq, lcK_eq, conJ_eq, conK_eq, andJ_eq, orJ_eq, rg2J_eq, nxtK_eq, setI1_eq, setI2_eq, setI3_eq, retK_eq,  vE_var, varK_ok, vE_int, vE_bl, vE_non, vE_str, vE_tup, vE_lst, vE_bin, vE_neg, vE_not, vE_and, vE_or, vE_cmp, vE_ite, brE_t, brE_f, vE_idx, vE_slc, ab_c, ab_v, ab_b, ab_a, optI_int, if_ft, if_tt, s_tup, vE_call, vE_callk, vE_prim, vE_isin, vE_meth, vE_lc, vE_gcon, toD_int, toD_strs, vE_chain, chnI_eq, chnK_eq, chnJ_t, chnJ_f, vE_tupG, tgJ_eq, tgK_eq, vE_qual, qlK_eq, vE_sumG, smK_eq, vE_lc2, l2K_eq, vEs_nil, vEs_cons, vA_one, vA_cons, vO_one, vO_cons, andK_t, andK_f, orK_t, orK_f, vT_nil, vT_cons, vI_seq, seqK_tup, seqK_rls, seqK_loc, seqL_ok, vI_enum, enK_eq, vI_zip, zpJ_eq, zpK_eq, vI_range1, rg1_int, vI_range2, rg2_int,
  xS_asg, asgK_nm, asgT_nm, asgT_tp2, asgT_tp3, asgK_tp2, asgK_tp3, xS_par, parK_2, parK_3, xS_setS, xS_aug, augV_ok, augK_add, augK_sub, xS_augS, agR_some, agD_eq, agX_eq, agI_eq, agO_eq, idxM_loc, augD_add, augD_sub, xS_expr, xS_ret, xS_retN, xS_ite, brS_t, brS_f, xS_wh, whB_t, whB_f, whK_n, whK_c, whK_b, whK_r, xS_fo, foT_some, foK_n, foK_c, foK_b, foK_r, xS_brk, xS_cont, xS_pass, xS_callx, flX_non, flX_tup, xS_tryx, xS_retx, rtX_non, rtX_tup, xSs_nil, xSs_cons, sqK_n, sqK_r, sqK_b, sqK_c,
  b_add, b_sub, b_mul, b_mulL, b_mulR, b_fdiv, b_mod, b_pow, b_addT, b_addL, addL_ok, b_repT, k_lt, k_le, k_gt, k_ge, k_eq, k_ne, k_isN, k_notN, k_in, k_nin, tr_str, q_int, q_bl, q_str, ofB_some, Option.map_some, tr_bl, tr_int, tr_non, tr_tup, tr_loc, trK_ok, td_bl, td_int, td_tup, i_tup, i_rls, i_loc, idxL_ok, okV_some, at0, at1, at2, at3, at_m1, tupK_ok, lstK_ok, negK_int, p_abs, p_int, p_intB, p_lenT, p_lenR, p_lenL, lenL_ok, p_sorted, p_sum, intsL_ok, allInt_map, srtI_ok, smI_ok, p_max, p_min, p_tupT, p_tupL, tupL_ok, p_lstT, p_lstL, lstL_ok, isD_ok, m_app, appL_ok, m_pop, popL_ok, m_rev, revL_ok, recv_ok, recvL_ok, set_loc, setL_ok, setI_ok, new_eq, Bool.not_true, Bool.not_false, if_true, eq_self, decide_true, decide_false,
  List.set_cons_zero, List.set_cons_succ, List.getElem?_cons_zero, List.getElem?_cons_succ, List.length_cons, List.length_nil, Option.some.injEq])
local macro_rules | `(tactic| walk_at "ev*") => `(tactic| simp (config := { maxSteps := 3000000 }) (disch := first | assumption | omega | exact ⟨by omega, by omega⟩ | exact ⟨⟨by omega, by omega⟩, ⟨by omega, by omega⟩⟩ | exact Nat.le_of_ble_eq_true rfl | decide) only [Int.reduceEq, wp_ok, bnd_ok, bnd_bad, binJ_eq, binK_eq, notK_eq, cmpJ_eq, cmpK_eq, idxJ_eq, idxK_eq, calJ_eq, clkJ_eq, clkK_eq, priJ_eq, isiJ_eq, metJ_eq, metI_t, metK_eq, lcJ_eq, lcK_eq, conJ_eq, conK_eq, andJ_eq, orJ_eq, rg2J_eq, nxtK_eq, setI1_eq, setI2_eq, setI3_eq, retK_eq,  vE_var, varK_ok, vE_int, vE_bl, vE_non, vE_str, vE_tup, vE_lst, vE_bin, vE_neg, vE_not, vE_and, vE_or, vE_cmp, vE_ite, brE_t, brE_f, vE_idx, vE_slc, ab_c, ab_v, ab_b, ab_a, optI_int, if_ft, if_tt, s_tup, vE_call, vE_callk, vE_prim, vE_isin, vE_meth, vE_lc, vE_gcon, toD_int, toD_strs, vE_chain, chnI_eq, chnK_eq, chnJ_t, chnJ_f, vE_tupG, tgJ_eq, tgK_eq, vE_qual, qlK_eq, vE_sumG, smK_eq, vE_lc2, l2K_eq, vEs_nil, vEs_cons, vA_one, vA_cons, vO_one, vO_cons, andK_t, andK_f, orK_t, orK_f, vT_nil, vT_cons, vI_seq, seqK_tup, seqK_rls, seqK_loc, seqL_ok, vI_enum, enK_eq, vI_zip, zpJ_eq, zpK_eq, vI_range1, rg1_int, vI_range2, rg2_int,
  xS_asg, asgK_nm, asgT_nm, asgT_tp2, asgT_tp3, asgK_tp2, asgK_tp3, xS_par, parK_2, parK_3, xS_setS, xS_aug, augV_ok, augK_add, augK_sub, xS_augS, agR_some, agD_eq, agX_eq, agI_eq, agO_eq, idxM_loc, augD_add, augD_sub, xS_expr, xS_ret, xS_retN, xS_ite, brS_t, brS_f, xS_wh, whB_t, whB_f, whK_n, whK_c, whK_b, whK_r, xS_fo, foT_some, foK_n, foK_c, foK_b, foK_r, xS_brk, xS_cont, xS_pass, xS_callx, flX_non, flX_tup, xS_tryx, xS_retx, rtX_non, rtX_tup, xSs_nil, xSs_cons, sqK_n, sqK_r, sqK_b, sqK_c,
  b_add, b_sub, b_mul, b_mulL, b_mulR, b_fdiv, b_mod, b_pow, b_addT, b_addL, addL_ok, b_repT, k_lt, k_le, k_gt, k_ge, k_eq, k_ne, k_isN, k_notN, k_in, k_nin, tr_str, q_int, q_bl, q_str, ofB_some, Option.map_some, tr_bl, tr_int, tr_non, tr_tup, tr_loc, trK_ok, td_bl, td_int, td_tup, i_tup, i_rls, i_loc, idxL_ok, okV_some, at0, at1, at2, at3, at_m1, tupK_ok, lstK_ok, negK_int, p_abs, p_int, p_intB, p_lenT, p_lenR, p_lenL, lenL_ok, p_sorted, p_sum, intsL_ok, allInt_map, srtI_ok, smI_ok, p_max, p_min, p_tupT, p_tupL, tupL_ok, p_lstT, p_lstL, lstL_ok, isD_ok, m_app, appL_ok, m_pop, popL_ok, m_rev, revL_ok, recv_ok, recvL_ok, set_loc, setL_ok, setI_ok, new_eq, Bool.not_true, Bool.not_false, if_true, eq_self, decide_true, decide_false,
  List.set_cons_zero, List.set_cons_succ, List.getElem?_cons_zero, List.getElem?_cons_succ, List.length_cons, List.length_nil, Option.some.injEq, *])
local macro_rules | `(tactic| walk_at "evs") => `(tactic| simp (config := { maxSteps := 3000000 }) (disch := first | assumption | omega | exact ⟨by omega, by omega⟩ | exact ⟨⟨by omega, by omega⟩, ⟨by omega, by omega⟩⟩ | exact Nat.le_of_ble_eq_true rfl | decide) only [Int.reduceEq, wp_ok, bnd_ok, bnd_bad, binJ_eq, binK_eq, notK_eq, cmpJ_eq, cmpK_eq, idxJ_eq, idxK_eq, calJ_eq, clkJ_eq, clkK_eq, priJ_eq, isiJ_eq, metJ_eq, metI_t, metK_eq, lcJ_eq, lcK_eq, conJ_eq, conK_eq, andJ_eq, orJ_eq, rg2J_eq, nxtK_eq, setI1_eq, setI2_eq, setI3_eq, retK_eq,  vE_var, varK_ok, vE_int, vE_bl, vE_non, vE_str, vE_tup, vE_lst, vE_bin, vE_neg, vE_not, vE_and, vE_or, vE_cmp, vE_ite, brE_t, brE_f, vE_idx, vE_slc, ab_c, ab_v, ab_b, ab_a, optI_int, if_ft, if_tt, s_tup, vE_call, vE_callk, vE_prim, vE_isin, vE_meth, vE_lc, vE_gcon, toD_int, toD_strs, vE_chain, chnI_eq, chnK_eq, chnJ_t, chnJ_f, vE_tupG, tgJ_eq, tgK_eq, vE_qual, qlK_eq, vE_sumG, smK_eq, vE_lc2, l2K_eq, vEs_nil, vEs_cons, vA_one, vA_cons, vO_one, vO_cons, andK_t, andK_f, orK_t, orK_f, vT_nil, vT_cons, vI_seq, seqK_tup, seqK_rls, seqK_loc, seqL_ok, vI_enum, enK_eq, vI_zip, zpJ_eq, zpK_eq, vI_range1, rg1_int, vI_range2, rg2_int,
  xS_asg, asgK_nm, asgT_nm, asgT_tp2, asgT_tp3, asgK_tp2, asgK_tp3, xS_par, parK_2, parK_3, xS_setS, xS_aug, augV_ok, augK_add, augK_sub, xS_augS, agR_some, agD_eq, agX_eq, agI_eq, agO_eq, idxM_loc, augD_add, augD_sub, xS_expr, xS_ret, xS_retN, xS_ite, brS_t, brS_f, xS_wh, whB_t, whB_f, whK_n, whK_c, whK_b, whK_r, xS_fo, foT_some, foK_n, foK_c, foK_b, foK_r, xS_brk, xS_cont, xS_pass, xS_callx, flX_non, flX_tup, xS_tryx, xS_retx, rtX_non, rtX_tup, xSs_nil, xSs_cons, sqK_n, sqK_r, sqK_b, sqK_c,
  b_add, b_sub, b_mul, b_mulL, b_mulR, b_fdiv, b_mod, b_pow, b_addT, b_addL, addL_ok, b_repT, k_lt, k_le, k_gt, k_ge, k_eq, k_ne, k_isN, k_notN, k_in, k_nin, tr_str, q_int, q_bl, q_str, ofB_some, Option.map_some, tr_bl, tr_int, tr_non, tr_tup, tr_loc, trK_ok, td_bl, td_int, td_tup, i_tup, i_rls, i_loc, idxL_ok, okV_some, at0, at1, at2, at3, at_m1, tupK_ok, lstK_ok, negK_int, p_abs, p_int, p_intB, p_lenT, p_lenR, p_lenL, lenL_ok, p_sorted, p_sum, intsL_ok, allInt_map, srtI_ok, smI_ok, p_max, p_min, p_tupT, p_tupL, tupL_ok, p_lstT, p_lstL, lstL_ok, isD_ok, m_app, appL_ok, m_pop, popL_ok, m_rev, revL_ok, recv_ok, recvL_ok, set_loc, setL_ok, setI_ok, new_eq, Bool.not_true, Bool.not_false, if_true, eq_self, decide_true, decide_false,
  List.set_cons_zero, List.set_cons_succ, List.getElem?_cons_zero, List.getElem?_cons_succ, List.length_cons, List.length_nil, Option.some.injEq, List.cons_append, List.nil_append, List.append_assoc, Nat.reduceAdd, st_get, st_get0, st_set, st_set0, List.length_append, Nat.add_zero, Nat.zero_add, *])

local macro_rules | `(tactic| walk_at "dv") => `(tactic| repeat with_reducible first | refine wp_bnd ?_ | refine wp_tru ?_ | refine wp_optI ?_)
theorem dr6 : P 6 = some ⟨2, 5, B_draw, false⟩ := rfl
theorem pk7 : P 7 = some ⟨2, 2, B_pick 6, false⟩ := rfl
def StS (m : Int) (d : D) : Prop := ∃ (is : List Int) (b k : Int), d = .tup [.tup (is.map .int), .int b, .int k] ∧ (is.length : Int) = m
theorem e_streamof (n : Nat) {l g c : Nat} {S : Store} (hB : Bg l g c S) (many : Int) (h1 : 1 ≤ many) (h2 : many ≤ 60) : ∃ d S', callN P (n + 4) 12 [.loc l, .int many] S = .ok d S' ∧ StS many d ∧ Ex l g c S S' := by
  rw [callN_eq (n + 3) _ _ (fd := ⟨2, 4, b__law_stream_of, true⟩) rfl rfl (Nat.le_of_ble_eq_true rfl)]
  suffices H : Wp (exSs (callN P (n + 3)) b__law_stream_of [some (.loc l), some (.int many), none, none] S) fun r S' => ∃ d, r.1 = .ret d ∧ StS many d ∧ Ex l g c S S' by
    obtain ⟨⟨fl, e⟩, S1, h, d, h3, hd, hE⟩ := H
    obtain rfl : fl = .ret d := h3
    obtain ⟨S2, a, b, _⟩ := ex_end (fd := ⟨2, 4, b__law_stream_of, true⟩) h rfl hE (by
      obtain ⟨is, b, k, rfl, _⟩ := hd
      simp [clD, clDs, clDs_ints])
    exact ⟨d, S2, a, hd, b⟩
  have hlc : ∃ (xs : List Int) (S' : Store), lcS (callN P (n + 3)) [some (.loc l), some (.int many), none, none] (.nm 3) [3] .nil (.call 7 (.cons (.var 0) (.cons (.lst (.cons (.cint 0) (.cons (.cint 100000) (.cons (.cint 3) (.cons (.call 6 (.cons (.var 0) (.cons (.cint 100) .nil))) (.cons (.cint 99999) .nil)))))) .nil))) ⟨rngK 0 many, none⟩ (rngK 0 many) [] S = .ok ([] ++ xs.map .int) S' ∧ xs.length = (rngK 0 many).length ∧ (∀ x ∈ xs, True) ∧ Ex l g c S S' :=
    lc_eff (callN P (n + 3)) [some (.loc l), some (.int many), none, none] (.nm 3) [3] (.call 7 (.cons (.var 0) (.cons (.lst (.cons (.cint 0) (.cons (.cint 100000) (.cons (.cint 3) (.cons (.call 6 (.cons (.var 0) (.cons (.cint 100) .nil))) (.cons (.cint 99999) .nil)))))) .nil))) ⟨rngK 0 many, none⟩ (Ex l g c S) (fun _ => True) (fun s _ => here_none _ _) (rngK 0 many) [] S (Ex.refl hB) (by rw [rng_len]; show 0 + _ < 16777216; omega) (by
      intro d _ S1 hE
      suffices H : Wp (evE (callN P (n + 3)) (.call 7 (.cons (.var 0) (.cons (.lst (.cons (.cint 0) (.cons (.cint 100000) (.cons (.cint 3) (.cons (.call 6 (.cons (.var 0) (.cons (.cint 100) .nil))) (.cons (.cint 99999) .nil)))))) .nil))) [some (.loc l), some (.int many), none, some d] S1) fun d S' => ∃ x, d = .int x ∧ Ex l g c S S' by
        obtain ⟨d, S2, e, x, rfl, hE2⟩ := H
        exact ⟨_, x, S2, rfl, e, trivial, hE2⟩
      walk_at "ev*"
      walk_at "dv"
      refine wp_drawE (N := n + 3) (m := 100) dr6 (by omega) hE.bg (by omega) (by omega) fun r S2 r0 r1 hE2 => ?_
      walk_at "ev*"
      walk_at "dv"
      refine wp_pickL (c := c) (N := n + 3) pk7 dr6 (by omega) (hE2.bg.app _) (ds := [.int 0, .int 100000, .int 3, .int r, .int 99999]) (at_new _ _) (nlg hE2.bg (Nat.le_refl _)).1 (nlg hE2.bg (Nat.le_refl _)).2 (by simp) (by simp) fun d S3 hd hE3 => ?_
      obtain ⟨i, rfl, _⟩ := int_of (xs := [0, 100000, 3, r, 99999]) hd
      exact ⟨i, rfl, hE.trans ((hE2.new _).trans hE3)⟩)
  obtain ⟨is, S1, e1, hlen, _, hE1⟩ := hlc
  rw [rng_len] at hlen
  have r62 : R62 many := ⟨by omega, by omega⟩
  have g1 : (S1 ++ [SO.lst (is.map .int)])[S1.length]? = some (.lst (is.map .int)) := at_new _ _
  have hE3 : Ex l g c S (S1 ++ [SO.lst (is.map .int)] ++ [SO.lst ((sortI is).map .int)]) := (hE1.new _).new _
  have g3 := at_new (S1 ++ [SO.lst (is.map D.int)]) (.lst ((sortI is).map .int))
  have hs : (sortI is).length = is.length := (List.mergeSort_perm is _).length_eq
  unfold b__law_stream_of
  rw [xSs_cons]
  have st : exS (callN P (n + 3)) (.asg (.nm 2) (.prim .sorted (.cons (.lc (.call 7 (.cons (.var 0) (.cons (.lst (.cons (.cint 0) (.cons (.cint 100000) (.cons (.cint 3) (.cons (.call 6 (.cons (.var 0) (.cons (.cint 100) .nil))) (.cons (.cint 99999) .nil)))))) .nil))) (.nm 3) (.range1 (.var 1)) .nil [3]) .nil))) [some (.loc l), some (.int many), none, none] S = .ok (.next, [some (.loc l), some (.int many), some (.loc (S1 ++ [SO.lst (is.map .int)]).length), none]) (S1 ++ [SO.lst (is.map .int)] ++ [SO.lst ((sortI is).map .int)]) := by
    rw [List.nil_append] at e1
    clear hE3 g3 hE1 hB
    walk_at "ev*"
  rw [st, bnd_ok, sqK_n]
  clear st g1 e1
  generalize S1 ++ [SO.lst (is.map .int)] = S2 at *
  generalize S2 ++ [SO.lst ((sortI is).map .int)] = S3 at *
  walk_at "ev*"
  walk_at "dv"
  refine wp_pickL (c := c) (N := n + 3) pk7 dr6 (by omega) (hE3.bg.app _) (ds := [.int 1, .int 60, .int 5]) (at_new _ _) (nlg hE3.bg (Nat.le_refl _)).1 (nlg hE3.bg (Nat.le_refl _)).2 (by simp) (by simp) fun d S4 hd hE4 => ?_
  obtain ⟨i, rfl, _⟩ := int_of (xs := [1, 60, 5]) hd
  walk_at "ev*"
  walk_at "dv"
  refine wp_pickL (c := c) (N := n + 3) pk7 dr6 (by omega) (hE4.bg.app _) (ds := [.int 0, .int 60, .int 2]) (at_new _ _) (nlg hE4.bg (Nat.le_refl _)).1 (nlg hE4.bg (Nat.le_refl _)).2 (by simp) (by simp) fun d S5 hd hE5 => ?_
  obtain ⟨k, rfl, _⟩ := int_of (xs := [0, 60, 2]) hd
  have L3 : 0 + 1 + 1 + 1 ≤ LINE := by decide
  walk_at "ev*"
  exact ⟨_, rfl, ⟨sortI is, i, k, rfl, by rw [hs]; omega⟩, hE3.trans ((Ex.refl hE3.bg).new _ |>.trans (hE4.trans ((Ex.refl hE4.bg).new _ |>.trans hE5)))⟩
/-! ### data */ -/
def DaS (d : D) : Prop := ∃ ds, d = .tup ds ∧ 1 ≤ ds.length ∧ ds.length ≤ 3 ∧ ∀ x ∈ ds, ∃ m, 1 ≤ m ∧ m ≤ 60 ∧ StS m x
theorem st_cl {m : Int} {d : D} (n : Nat) (h : StS m d) : clD n d = true := by
  obtain ⟨is, b, k, rfl, _⟩ := h
  simp [clD, clDs, clDs_ints]
theorem cls_all (n : Nat) : ∀ ds : List D, (∀ x ∈ ds, clD n x = true) → clDs n ds = true
  | [], _ => rfl
  | d :: ds, h => by
    unfold clDs
    rw [h d List.mem_cons_self, cls_all n ds fun x hx => h x (List.mem_cons_of_mem _ hx)]
    rfl
theorem e_dataof (n : Nat) {l g c : Nat} {S : Store} (hB : Bg l g c S) : ∃ d S', callN P (n + 6) 13 [.loc l] S = .ok d S' ∧ DaS d ∧ Ex l g c S S' := by
  rw [callN_eq (n + 5) _ _ (fd := ⟨1, 5, b__law_data_of, true⟩) rfl rfl (Nat.le_of_ble_eq_true rfl)]
  suffices H : Wp (exSs (callN P (n + 5)) b__law_data_of [some (.loc l), none, none, none, none] S) fun r S' => ∃ d, r.1 = .ret d ∧ DaS d ∧ Ex l g c S S' by
    obtain ⟨⟨fl, e⟩, S1, h, d, h3, hd, hE⟩ := H
    obtain rfl : fl = .ret d := h3
    obtain ⟨S2, a, b, _⟩ := ex_end (fd := ⟨1, 5, b__law_data_of, true⟩) h rfl hE (by
      obtain ⟨ds, rfl, _, _, h⟩ := hd
      show clDs _ ds = true
      exact cls_all _ ds fun x hx => by obtain ⟨m, _, _, hm⟩ := h x hx; exact st_cl _ hm)
    exact ⟨d, S2, a, hd, b⟩
  unfold b__law_data_of
  refine wp_seq (fun e S1 => ∃ s : Int, e = [some (.loc l), some (.int (1 + s)), none, none, none] ∧ 0 ≤ s ∧ s < 3 ∧ Ex l g c S S1) ?_ ?_
  · walk_at "ev*"
    walk_at "dv"
    refine wp_drawE (N := n + 5) (m := 3) dr6 (by omega) hB (by omega) (by omega) fun s S1 s0 s1 hE1 => ?_
    clear hB
    walk_at "ev"
    exact ⟨trivial, s, rfl, s0, s1, hE1⟩
  rintro e S1 ⟨s, rfl, s0, s1, hE1⟩
  have r62 : R62 (1 + s) := ⟨by omega, by omega⟩
  refine wp_seq (fun e S2 => ∃ (j : Nat) (is : List Int), e = [some (.loc l), some (.int (1 + s)), some (.loc j), none, none] ∧ S2[j]? = some (.lst (is.map .int)) ∧ (is.length : Int) = 1 + s ∧ (∀ i ∈ is, 1 ≤ i ∧ i ≤ 5) ∧ S.length ≤ j ∧ Ex l g c S S2) ?_ ?_
  · walk_at "ev*"
    walk_at "dv"
    refine wp_lc (fun x => ∃ i, x = .int i ∧ (1 ≤ i ∧ i ≤ 5)) hE1.bg (fun _ _ => here_none _ _) (by rw [rng_len]; omega) (fun d _ S' hE' => ⟨[some (.loc l), some (.int (1 + s)), none, some d, none], rfl, ?_⟩) fun xs S2 hlen hxs hE2 => ?_
    · walk_at "ev*"
      walk_at "dv"
      refine wp_drawE (N := n + 5) (m := 5) dr6 (by omega) hE'.bg (by omega) (by omega) fun r S3 r0 r1 hE3 => ?_
      walk_at "ev"
      exact ⟨⟨1 + r, rfl, by omega, by omega⟩, hE'.trans hE3⟩
    · obtain ⟨is, rfl, his⟩ := ints_of hxs
      rw [rng_len, List.length_map] at hlen
      walk_at "ev"
      exact ⟨trivial, S2.length, is, rfl, at_new _ _, by omega, his, (hE1.trans hE2).len, (hE1.trans hE2).new _⟩
  rintro e S2 ⟨j, is, rfl, g2, hlen, his, hj, hE2⟩
  refine wp_seq (fun e S3 => ∃ (js : List Int), e = [some (.loc l), some (.int (1 + s)), some (.loc j), none, none] ∧ S3[j]? = some (.lst (js.map .int)) ∧ js.length = is.length ∧ (∀ i ∈ js, 1 ≤ i ∧ i ≤ 60) ∧ Ex l g c S S3) ?_ ?_
  · walk_at "ev*"
    walk_at "dv"
    refine wp_drawE (N := n + 5) (m := 3) dr6 (by omega) hE2.bg (by omega) (by omega) fun w S3 w0 w1 hE3 => ?_
    have g3 := hE3.get g2 (hE2.here hj).1 (hE2.here hj).2
    have hE4 := hE2.trans hE3
    by_cases hw : w = 0
    · have dw : decide (w = 0) = true := decide_eq_true hw
      have wl := hE4.here hj
      clear hw g2 hE3 hE2 w0 w1 hE1 hB r62
      walk_at "ev*"
      walk_at "dv"
      refine wp_drawE (N := n + 5) (m := 1 + s) dr6 (by omega) hE4.bg (by omega) (by omega) fun r S4 r0 r1 hE5 => ?_
      have g4 := hE5.get g3 wl.1 wl.2
      have hE6 := hE4.trans hE5
      obtain ⟨hs1, hs2, hs3⟩ := sum_rng (by omega) his
      obtain ⟨k, rfl⟩ : ∃ k : Nat, r = (k : Int) := ⟨r.toNat, by omega⟩
      have hk : k < is.length := by omega
      have a1 : atI (is.map D.int) (k : Int) = some (.int is[k]) := by
        rw [at_nat (by omega) (by rw [List.length_map]; omega)]
        simp
      have a2 : ixN (List.map D.int is).length (k : Int) = some k := ixN_nat (by rw [List.length_map]; exact hk)
      have i1 := his _ (List.getElem_mem hk)
      have i2 := hs1 _ (List.getElem_mem hk)
      have lt := get_lt g4
      clear hE5 hE4 g3 dw
      generalize is[k] = q at *
      walk_at "ev*"
      refine ⟨trivial, is.set k (q + (60 - is.sum)), by first | rfl | trivial, ?_, by rw [List.length_set], fun i hi => ?_, hE6.set hj _⟩
      · rw [List.getElem?_set_self lt, List.map_set]
      · rcases List.mem_or_eq_of_mem_set hi with hi | rfl
        · have := his i hi
          omega
        · omega
    · have dw : decide (w = 0) = false := decide_eq_false hw
      clear hw g2 hE3 hE2
      walk_at "ev*"
      exact ⟨trivial, is, by first | rfl | trivial, by first | exact g3 | trivial, rfl, fun i hi => by have := his i hi; omega, by first | exact hE4 | trivial⟩
  rintro e S3 ⟨js, rfl, g3, hjl, hjs, hE3⟩
  have wl := hE3.here hj
  clear g2 his hE2 hE1 hB r62
  walk_at "ev*"
  walk_at "dv"
  refine wp_lc (fun x => ∃ m, 1 ≤ m ∧ m ≤ 60 ∧ StS m x) hE3.bg (fun S' hE' => here_some _ (hE'.get g3 wl.1 wl.2)) (by rw [List.length_map]; omega) (fun d hd S' hE' => ⟨[some (.loc l), some (.int (1 + s)), some (.loc j), none, some d], rfl, ?_⟩) fun xs S4 hlen2 hxs hE4 => ?_
  · obtain ⟨i, rfl, hi⟩ := int_of hd
    obtain ⟨i1, i2⟩ := hjs i hi
    walk_at "ev*"
    refine wp_fn (Post := StS i) (e_streamof (n + 1) hE'.bg i i1 i2) fun d S5 hd hE5 => ?_
    exact ⟨⟨i, i1, i2, hd⟩, hE'.trans hE5⟩
  · rw [List.length_map] at hlen2
    have g4 := at_new S4 (.lst xs)
    have hE5 := (hE3.trans hE4).new [.lst xs]
    clear hE4 hE3 g3
    walk_at "ev*"
    exact ⟨_, rfl, ⟨xs, rfl, by omega, by omega, hxs⟩, by first | exact hE5 | trivial⟩
end
end LW
namespace LW
open PySem PySem.Spec PyProof.Rows L2 SX
noncomputable section
open Classical
local macro_rules | `(tactic| walk_at "ev") => `(tactic| simp (config := { maxSteps := 3000000 }) (disch := first | assumption | omega | exact ⟨by omega, by omega⟩ | exact ⟨⟨by omega, by omega⟩, ⟨by omega, by omega⟩⟩ | exact Nat.le_of_ble_eq_true rfl | decide) only [Int.reduceEq, wp_ok, bnd_ok, bnd_bad, binJ_eq, binK_eq, notK_eq, cmpJ_eq, cmpK_eq, idxJ_eq, idxK_eq, calJ_eq, clkJ_eq, clkK_eq, priJ_eq, isiJ_eq, metJ_eq, metI_t, metK_eq, lcJ_eq, lcK_eq, conJ_eq, conK_eq, andJ_eq, orJ_eq, rg2J_eq, nxtK_eq, setI1_eq, setI2_eq, setI3_eq, retK_eq,  vE_var, varK_ok, vE_int, vE_bl, vE_non, vE_str, vE_tup, vE_lst, vE_bin, vE_neg, vE_not, vE_and, vE_or, vE_cmp, vE_ite, brE_t, brE_f, vE_idx, vE_slc, ab_c, ab_v, ab_b, ab_a, optI_int, if_ft, if_tt, s_tup, vE_call, vE_callk, vE_prim, vE_isin, vE_meth, vE_lc, vE_gcon, toD_int, toD_strs, vE_chain, chnI_eq, chnK_eq, chnJ_t, chnJ_f, vE_tupG, tgJ_eq, tgK_eq, vE_qual, qlK_eq, vE_sumG, smK_eq, vE_lc2, l2K_eq, vEs_nil, vEs_cons, vA_one, vA_cons, vO_one, vO_cons, andK_t, andK_f, orK_t, orK_f, vT_nil, vT_cons, vI_seq, seqK_tup, seqK_rls, seqK_loc, seqL_ok, vI_enum, enK_eq, vI_zip, zpJ_eq, zpK_eq, vI_range1, rg1_int, vI_range2, rg2_int,
  xS_asg, asgK_nm, asgT_nm, asgT_tp2, asgT_tp3, asgK_tp2, asgK_tp3, xS_par, parK_2, parK_3, xS_setS, xS_aug, augV_ok, augK_add, augK_sub, xS_augS, agR_some, agD_eq, agX_eq, agI_eq, agO_eq, idxM_loc, augD_add, augD_sub, xS_expr, xS_ret, xS_retN, xS_ite, brS_t, brS_f, xS_wh, whB_t, whB_f, whK_n, whK_c, whK_b, whK_r, xS_fo, foT_some, foK_n, foK_c, foK_b, foK_r, xS_brk, xS_cont, xS_pass, xS_callx, flX_non, flX_tup, xS_tryx, xS_retx, rtX_non, rtX_tup, xSs_nil, xSs_cons, sqK_n, sqK_r, sqK_b, sqK_c,
  b_add, b_sub, b_mul, b_mulL, b_mulR, b_fdiv, b_mod, b_pow, b_addT, b_addL, addL_ok, b_repT, k_lt, k_le, k_gt, k_ge, k_eq, k_ne, k_isN, k_notN, k_in, k_nin, tr_str, q_int, q_bl, q_str, ofB_some, Option.map_some, tr_bl, tr_int, tr_non, tr_tup, tr_loc, trK_ok, td_bl, td_int, td_tup, i_tup, i_rls, i_loc, idxL_ok, okV_some, at0, at1, at2, at3, at_m1, tupK_ok, lstK_ok, negK_int, p_abs, p_int, p_intB, p_lenT, p_lenR, p_lenL, lenL_ok, p_sorted, p_sum, intsL_ok, allInt_map, srtI_ok, smI_ok, p_max, p_min, p_tupT, p_tupL, tupL_ok, p_lstT, p_lstL, lstL_ok, isD_ok, m_app, appL_ok, m_pop, popL_ok, m_rev, revL_ok, recv_ok, recvL_ok, set_loc, setL_ok, setI_ok, new_eq, Bool.not_true, Bool.not_false, if_true, eq_self, decide_true, decide_false,
  List.set_cons_zero, List.set_cons_succ, List.getElem?_cons_zero, List.getElem?_cons_succ, List.length_cons, List.length_nil, Option.some.injEq])
local macro_rules | `(tactic| walk_at "ev*") => `(tactic| simp (config := { maxSteps := 3000000 }) (disch := first | assumption | omega | exact ⟨by omega, by omega⟩ | exact ⟨⟨by omega, by omega⟩, ⟨by omega, by omega⟩⟩ | exact Nat.le_of_ble_eq_true rfl | decide) only [Int.reduceEq, wp_ok, bnd_ok, bnd_bad, binJ_eq, binK_eq, notK_eq, cmpJ_eq, cmpK_eq, idxJ_eq, idxK_eq, calJ_eq, clkJ_eq, clkK_eq, priJ_eq, isiJ_eq, metJ_eq, metI_t, metK_eq, lcJ_eq, lcK_eq, conJ_eq, conK_eq, andJ_eq, orJ_eq, rg2J_eq, nxtK_eq, setI1_eq, setI2_eq, setI3_eq, retK_eq,  vE_var, varK_ok, vE_int, vE_bl, vE_non, vE_str, vE_tup, vE_lst, vE_bin, vE_neg, vE_not, vE_and, vE_or, vE_cmp, vE_ite, brE_t, brE_f, vE_idx, vE_slc, ab_c, ab_v, ab_b, ab_a, optI_int, if_ft, if_tt, s_tup, vE_call, vE_callk, vE_prim, vE_isin, vE_meth, vE_lc, vE_gcon, toD_int, toD_strs, vE_chain, chnI_eq, chnK_eq, chnJ_t, chnJ_f, vE_tupG, tgJ_eq, tgK_eq, vE_qual, qlK_eq, vE_sumG, smK_eq, vE_lc2, l2K_eq, vEs_nil, vEs_cons, vA_one, vA_cons, vO_one, vO_cons, andK_t, andK_f, orK_t, orK_f, vT_nil, vT_cons, vI_seq, seqK_tup, seqK_rls, seqK_loc, seqL_ok, vI_enum, enK_eq, vI_zip, zpJ_eq, zpK_eq, vI_range1, rg1_int, vI_range2, rg2_int,
  xS_asg, asgK_nm, asgT_nm, asgT_tp2, asgT_tp3, asgK_tp2, asgK_tp3, xS_par, parK_2, parK_3, xS_setS, xS_aug, augV_ok, augK_add, augK_sub, xS_augS, agR_some, agD_eq, agX_eq, agI_eq, agO_eq, idxM_loc, augD_add, augD_sub, xS_expr, xS_ret, xS_retN, xS_ite, brS_t, brS_f, xS_wh, whB_t, whB_f, whK_n, whK_c, whK_b, whK_r, xS_fo, foT_some, foK_n, foK_c, foK_b, foK_r, xS_brk, xS_cont, xS_pass, xS_callx, flX_non, flX_tup, xS_tryx, xS_retx, rtX_non, rtX_tup, xSs_nil, xSs_cons, sqK_n, sqK_r, sqK_b, sqK_c,
  b_add, b_sub, b_mul, b_mulL, b_mulR, b_fdiv, b_mod, b_pow, b_addT, b_addL, addL_ok, b_repT, k_lt, k_le, k_gt, k_ge, k_eq, k_ne, k_isN, k_notN, k_in, k_nin, tr_str, q_int, q_bl, q_str, ofB_some, Option.map_some, tr_bl, tr_int, tr_non, tr_tup, tr_loc, trK_ok, td_bl, td_int, td_tup, i_tup, i_rls, i_loc, idxL_ok, okV_some, at0, at1, at2, at3, at_m1, tupK_ok, lstK_ok, negK_int, p_abs, p_int, p_intB, p_lenT, p_lenR, p_lenL, lenL_ok, p_sorted, p_sum, intsL_ok, allInt_map, srtI_ok, smI_ok, p_max, p_min, p_tupT, p_tupL, tupL_ok, p_lstT, p_lstL, lstL_ok, isD_ok, m_app, appL_ok, m_pop, popL_ok, m_rev, revL_ok, recv_ok, recvL_ok, set_loc, setL_ok, setI_ok, new_eq, Bool.not_true, Bool.not_false, if_true, eq_self, decide_true, decide_false,
  List.set_cons_zero, List.set_cons_succ, List.getElem?_cons_zero, List.getElem?_cons_succ, List.length_cons, List.length_nil, Option.some.injEq, *])
local macro_rules | `(tactic| walk_at "evs") => `(tactic| simp (config := { maxSteps := 3000000 }) (disch := first | assumption | omega | exact ⟨by omega, by omega⟩ | exact ⟨⟨by omega, by omega⟩, ⟨by omega, by omega⟩⟩ | exact Nat.le_of_ble_eq_true rfl | decide) only [Int.reduceEq, wp_ok, bnd_ok, bnd_bad, binJ_eq, binK_eq, notK_eq, cmpJ_eq, cmpK_eq, idxJ_eq, idxK_eq, calJ_eq, clkJ_eq, clkK_eq, priJ_eq, isiJ_eq, metJ_eq, metI_t, metK_eq, lcJ_eq, lcK_eq, conJ_eq, conK_eq, andJ_eq, orJ_eq, rg2J_eq, nxtK_eq, setI1_eq, setI2_eq, setI3_eq, retK_eq,  vE_var, varK_ok, vE_int, vE_bl, vE_non, vE_str, vE_tup, vE_lst, vE_bin, vE_neg, vE_not, vE_and, vE_or, vE_cmp, vE_ite, brE_t, brE_f, vE_idx, vE_slc, ab_c, ab_v, ab_b, ab_a, optI_int, if_ft, if_tt, s_tup, vE_call, vE_callk, vE_prim, vE_isin, vE_meth, vE_lc, vE_gcon, toD_int, toD_strs, vE_chain, chnI_eq, chnK_eq, chnJ_t, chnJ_f, vE_tupG, tgJ_eq, tgK_eq, vE_qual, qlK_eq, vE_sumG, smK_eq, vE_lc2, l2K_eq, vEs_nil, vEs_cons, vA_one, vA_cons, vO_one, vO_cons, andK_t, andK_f, orK_t, orK_f, vT_nil, vT_cons, vI_seq, seqK_tup, seqK_rls, seqK_loc, seqL_ok, vI_enum, enK_eq, vI_zip, zpJ_eq, zpK_eq, vI_range1, rg1_int, vI_range2, rg2_int,
  xS_asg, asgK_nm, asgT_nm, asgT_tp2, asgT_tp3, asgK_tp2, asgK_tp3, xS_par, parK_2, parK_3, xS_setS, xS_aug, augV_ok, augK_add, augK_sub, xS_augS, agR_some, agD_eq, agX_eq, agI_eq, agO_eq, idxM_loc, augD_add, augD_sub, xS_expr, xS_ret, xS_retN, xS_ite, brS_t, brS_f, xS_wh, whB_t, whB_f, whK_n, whK_c, whK_b, whK_r, xS_fo, foT_some, foK_n, foK_c, foK_b, foK_r, xS_brk, xS_cont, xS_pass, xS_callx, flX_non, flX_tup, xS_tryx, xS_retx, rtX_non, rtX_tup, xSs_nil, xSs_cons, sqK_n, sqK_r, sqK_b, sqK_c,
  b_add, b_sub, b_mul, b_mulL, b_mulR, b_fdiv, b_mod, b_pow, b_addT, b_addL, addL_ok, b_repT, k_lt, k_le, k_gt, k_ge, k_eq, k_ne, k_isN, k_notN, k_in, k_nin, tr_str, q_int, q_bl, q_str, ofB_some, Option.map_some, tr_bl, tr_int, tr_non, tr_tup, tr_loc, trK_ok, td_bl, td_int, td_tup, i_tup, i_rls, i_loc, idxL_ok, okV_some, at0, at1, at2, at3, at_m1, tupK_ok, lstK_ok, negK_int, p_abs, p_int, p_intB, p_lenT, p_lenR, p_lenL, lenL_ok, p_sorted, p_sum, intsL_ok, allInt_map, srtI_ok, smI_ok, p_max, p_min, p_tupT, p_tupL, tupL_ok, p_lstT, p_lstL, lstL_ok, isD_ok, m_app, appL_ok, m_pop, popL_ok, m_rev, revL_ok, recv_ok, recvL_ok, set_loc, setL_ok, setI_ok, new_eq, Bool.not_true, Bool.not_false, if_true, eq_self, decide_true, decide_false,
  List.set_cons_zero, List.set_cons_succ, List.getElem?_cons_zero, List.getElem?_cons_succ, List.length_cons, List.length_nil, Option.some.injEq, List.cons_append, List.nil_append, List.append_assoc, Nat.reduceAdd, st_get, st_get0, st_set, st_set0, List.length_append, Nat.add_zero, Nat.zero_add, *])

local macro_rules | `(tactic| walk_at "dv") => `(tactic| repeat with_reducible first | refine wp_bnd ?_ | refine wp_tru ?_ | refine wp_optI ?_)
/-! ### one item exchanged -/
theorem cut_len (ds : List D) (lo hi : Option Int) : (SX.cutD ds lo hi).length ≤ ds.length := by
  unfold SX.cutD
  rw [List.length_take, List.length_drop]
  omega
theorem cut_mem {ds : List D} {lo hi : Option Int} {d : D} (h : d ∈ SX.cutD ds lo hi) : d ∈ ds := by
  unfold SX.cutD at h
  exact List.mem_of_mem_drop (List.mem_of_mem_take h)
def exF (ds : List D) (k : Int) (x : D) : List D := SX.cutD ds none (some k) ++ [x] ++ SX.cutD ds (some (k + 1)) none
theorem ex_len (ds : List D) (k : Int) (x : D) : (exF ds k x).length ≤ 2 * ds.length + 1 := by
  unfold exF
  have h1 := cut_len ds none (some k)
  have h2 := cut_len ds (some (k + 1)) none
  simp only [List.length_append, List.length_cons, List.length_nil]
  omega
theorem ex_mem {ds : List D} {k : Int} {x d : D} (h : d ∈ exF ds k x) : d = x ∨ d ∈ ds := by
  unfold exF at h
  rcases List.mem_append.mp h with h | h
  · rcases List.mem_append.mp h with h | h
    · exact .inr (cut_mem h)
    · exact .inl (List.mem_singleton.mp h)
  · exact .inr (cut_mem h)
theorem e_exch (n : Nat) (ds : List D) (k : Int) (x : D) (S : Store) (hl : ds.length ≤ 1000) : callN P (n + 1) 14 [.tup ds, .int k, x] S = .ok (.tup (exF ds k x)) S := by
  rw [callN_eq n _ _ (fd := ⟨3, 3, b__law_exchanged, false⟩) rfl rfl (Nat.le_of_ble_eq_true rfl)]
  have L0 : LINE = 16777216 := rfl
  refine end_any (env := [some (.tup ds), some (.int k), some x]) ?_ rfl
  show exSs (callN P n) b__law_exchanged [some (.tup ds), some (.int k), some x] S = _
  unfold b__law_exchanged exF
  have h1 := cut_len ds none (some k)
  have h2 := cut_len ds (some (k + 1)) none
  have b1 : ∀ S, binD .add (.tup (SX.cutD ds none (some k))) (.tup [x]) S = .ok (.tup (SX.cutD ds none (some k) ++ [x])) S := fun S => b_addT S (by simp only [List.length_cons, List.length_nil]; omega)
  have b2 : ∀ S, binD .add (.tup (SX.cutD ds none (some k) ++ [x])) (.tup (SX.cutD ds (some (k + 1)) none)) S = .ok (.tup (SX.cutD ds none (some k) ++ [x] ++ SX.cutD ds (some (k + 1)) none)) S := fun S => b_addT S (by simp only [List.length_append, List.length_cons, List.length_nil]; omega)
  clear h1 h2 hl
  walk_at "ev*"
/-! ### a stream spoilt -/
theorem dk_ints {xs : List D} (is : List Int) (h : xs = is.map .int) (k : Nat) : ∀ x ∈ xs, Dk k x := by
  intro x hx
  subst h
  obtain ⟨i, rfl, _⟩ := int_of hx
  exact dk_int k i
theorem dk_st {xs : List D} {b k : D} (h : ∀ x ∈ xs, Dk 1 x) (hb : Dk 2 b) (hk : Dk 2 k) : Dk 3 (.tup [.tup xs, b, k]) :=
  dk_tup fun x hx => by
    simp only [List.mem_cons, List.not_mem_nil, or_false] at hx
    rcases hx with rfl | rfl | rfl
    · exact dk_tup h
    · exact hb
    · exact hk
theorem dk_ex (is : List Int) (k : Int) (x : D) (hx : Dk 1 x) : ∀ y ∈ exF (is.map .int) k x, Dk 1 y := fun y hy => by
  rcases ex_mem hy with rfl | h
  · exact hx
  · exact dk_ints is rfl 1 y h
def scB : D → Bool
  | .non => true
  | .bl _ => true
  | .int _ => true
  | .str x => PyData.strOk x
  | _ => false
def dkB : Nat → D → Bool
  | 0, d => scB d
  | k + 1, d => match d with
    | .tup ds => ds.all (dkB k)
    | d => scB d
theorem sc_dk {d : D} (k : Nat) (h : scB d = true) : Dk k d := by
  cases d with
  | non => exact dk_non k
  | bl b => exact dk_bl k b
  | int i => exact dk_int k i
  | str x => exact dk_str k h
  | _ => cases h
theorem dkB_ok : ∀ {k : Nat} {d : D}, dkB k d = true → Dk k d
  | 0, d, h => sc_dk 0 h
  | k + 1, d, h => by
    cases d with
    | tup ds =>
      have h' : ds.all (dkB k) = true := h
      exact dk_tup fun x hx => dkB_ok (List.all_eq_true.mp h' x hx)
    | _ => exact sc_dk _ h
theorem dk_mem {k : Nat} {ds : List D} {d : D} (h : ds.all (dkB k) = true) (hd : d ∈ ds) : Dk k d := dkB_ok (List.all_eq_true.mp h d hd)
theorem e_spoilt (n : Nat) {l g c : Nat} {S : Store} (hB : Bg l g c S) (is : List Int) (b k : Int) (h1 : 1 ≤ is.length) (h2 : is.length ≤ 60) : ∃ d S', callN P (n + 4) 15 [.loc l, .tup [.tup (is.map .int), .int b, .int k]] S = .ok d S' ∧ Dk 3 d ∧ Ex l g c S S' := by
  rw [callN_eq (n + 3) _ _ (fd := ⟨2, 5, b__law_spoilt_stream, true⟩) rfl rfl (Nat.le_of_ble_eq_true rfl)]
  suffices H : Wp (exSs (callN P (n + 3)) b__law_spoilt_stream [some (.loc l), some (.tup [.tup (is.map .int), .int b, .int k]), none, none, none] S) fun r S' => ∃ d, r.1 = .ret d ∧ Dk 3 d ∧ Ex l g c S S' by
    obtain ⟨⟨fl, e⟩, S1, h, d, h3, hd, hE⟩ := H
    obtain rfl : fl = .ret d := h3
    obtain ⟨S2, a, b, _⟩ := ex_end (fd := ⟨2, 5, b__law_spoilt_stream, true⟩) h rfl hE (dk_cl _ hd)
    exact ⟨d, S2, a, hd, b⟩
  unfold b__law_spoilt_stream
  have hts := dk_ints is rfl
  have htl : (is.map D.int).length = is.length := List.length_map ..
  generalize hV : D.tup [.tup (is.map .int), .int b, .int k] = V at *
  have i0 : ∀ S, idxD V (.int 0) S = .ok (.tup (is.map .int)) S := fun S => by rw [← hV]; rfl
  have i1 : ∀ S, idxD V (.int 1) S = .ok (.int b) S := fun S => by rw [← hV]; rfl
  have i2 : ∀ S, idxD V (.int 2) S = .ok (.int k) S := fun S => by rw [← hV]; rfl
  have x1 : ∀ k x S, callN P (n + 3) 14 [.tup (is.map .int), .int k, x] S = .ok (.tup (exF (is.map .int) k x)) S := fun k x S => e_exch (n + 2) _ k x S (by omega)
  refine wp_seq (fun e S1 => ∃ w : Int, e = [some (.loc l), some V, some (.int w), none, none] ∧ 0 ≤ w ∧ w < 9 ∧ Ex l g c S S1) ?_ ?_
  · clear i0 i1 i2 x1
    walk_at "ev*"
    refine wp_bnd ?_
    refine wp_drawE (N := n + 3) (m := 9) dr6 (by omega) hB (by omega) (by omega) fun w S1 w0 w1 hE1 => ?_
    clear hB
    walk_at "ev"
    exact ⟨trivial, w, rfl, w0, w1, hE1⟩
  rintro e S1 ⟨w, rfl, w0, w1, hE1⟩
  refine wp_seq (fun e S2 => ∃ r : Int, e = [some (.loc l), some V, some (.int w), some (.tup (is.map .int)), some (.int r)] ∧ 0 ≤ r ∧ r < is.length ∧ Ex l g c S S2) ?_ ?_
  · clear i1 i2 x1
    have l0 : ∀ S, primD .len [.tup (is.map .int)] S = .ok (.int is.length) S := fun S => by
      show Res.ok (D.int ((is.map D.int).length : Int)) S = _
      rw [htl]
    walk_at "ev*"
    walk_at "dv"
    refine wp_drawE (N := n + 3) (m := is.length) dr6 (by omega) hE1.bg (by omega) (by omega) fun r S2 r0 r1 hE2 => ?_
    walk_at "ev"
    exact ⟨trivial, r, rfl, r0, r1, hE1.trans hE2⟩
  rintro e S2 ⟨r, rfl, r0, r1, hE2⟩
  clear hE1 hB
  have L0 : LINE = 16777216 := rfl
  have hw : w = 0 ∨ w = 1 ∨ w = 2 ∨ w = 3 ∨ w = 4 ∨ w = 5 ∨ w = 6 ∨ w = 7 ∨ w = 8 := by omega
  clear w0 w1 hts
  rcases hw with rfl | rfl | rfl | rfl | rfl | rfl | rfl | rfl | rfl
  · walk_at "ev*"
    exact ⟨_, rfl, dk_st (dk_ex is _ _ (dk_int 1 _)) (dk_int 2 _) (dk_int 2 _), by first | exact hE2 | trivial⟩
  · walk_at "ev*"
    exact ⟨_, rfl, dk_st (dk_ex is _ _ (dk_int 1 _)) (dk_int 2 _) (dk_int 2 _), by first | exact hE2 | trivial⟩
  · obtain ⟨q, a1⟩ : ∃ q, atI (is.map D.int) r = some (.int q) := by
      rw [at_nat r0 (by rw [List.length_map]; omega)]
      exact ⟨_, by rw [List.getElem_map]⟩
    have c1 := cut_len (is.map D.int) none (some (r + 1))
    have c2 := cut_len (is.map D.int) (some (r + 1)) none
    have b1 : ∀ S, binD .add (.tup (SX.cutD (is.map .int) none (some (r + 1)))) (.tup [.int (q - 1)]) S = .ok (.tup (SX.cutD (is.map .int) none (some (r + 1)) ++ [.int (q - 1)])) S := fun S => b_addT S (by simp only [List.length_cons, List.length_nil]; omega)
    have b2 : ∀ S, binD .add (.tup (SX.cutD (is.map .int) none (some (r + 1)) ++ [.int (q - 1)])) (.tup (SX.cutD (is.map .int) (some (r + 1)) none)) S = .ok (.tup (SX.cutD (is.map .int) none (some (r + 1)) ++ [.int (q - 1)] ++ SX.cutD (is.map .int) (some (r + 1)) none)) S := fun S => b_addT S (by simp only [List.length_append, List.length_cons, List.length_nil]; omega)
    clear c1 c2
    walk_at "ev*"
    refine ⟨_, rfl, dk_st (fun x hx => ?_) (dk_int 2 _) (dk_int 2 _), by first | exact hE2 | trivial⟩
    rcases List.mem_append.mp hx with hx | hx
    · rcases List.mem_append.mp hx with hx | hx
      · exact dk_ints is rfl 1 x (cut_mem hx)
      · rw [List.mem_singleton.mp hx]; exact dk_int 1 _
    · exact dk_ints is rfl 1 x (cut_mem hx)
  · skip
    walk_at "ev*"
    walk_at "dv"
    refine wp_pickL (N := n + 3) (c := c) pk7 dr6 (by omega) (hE2.bg.app _) (ds := [.non, .bl true, .bl false, .str (PySem.Str.ofString "1"), .tup [.int 1], .tup []]) (at_new _ _) (nlg hE2.bg (Nat.le_refl _)).1 (nlg hE2.bg (Nat.le_refl _)).2 (by simp) (by simp) fun d S3 hd hE3 => ?_
    have hdk : Dk 1 d := dk_mem (by first | rfl | decide +kernel) hd
    clear hd
    walk_at "ev*"
    exact ⟨_, rfl, dk_st (dk_ex is _ _ hdk) (dk_int 2 _) (dk_int 2 _), by first | exact hE2.trans (((Ex.refl hE2.bg).new _).trans hE3) | trivial⟩
  · skip
    walk_at "ev*"
    walk_at "dv"
    refine wp_pickL (N := n + 3) (c := c) pk7 dr6 (by omega) (hE2.bg.app _) (ds := [.int 0, .int 61, .bl true, .non, .str (PySem.Str.ofString "5"), .int (-1)]) (at_new _ _) (nlg hE2.bg (Nat.le_refl _)).1 (nlg hE2.bg (Nat.le_refl _)).2 (by simp) (by simp) fun d S3 hd hE3 => ?_
    have hdk : Dk 2 d := dk_mem (by first | rfl | decide +kernel) hd
    clear hd
    walk_at "ev*"
    exact ⟨_, rfl, dk_st (dk_ints is rfl 1) hdk (dk_int 2 _), by first | exact hE2.trans (((Ex.refl hE2.bg).new _).trans hE3) | trivial⟩
  · skip
    walk_at "ev*"
    walk_at "dv"
    refine wp_pickL (N := n + 3) (c := c) pk7 dr6 (by omega) (hE2.bg.app _) (ds := [.int (-1), .int 61, .bl false, .bl true, .non, .str (PySem.Str.ofString "0")]) (at_new _ _) (nlg hE2.bg (Nat.le_refl _)).1 (nlg hE2.bg (Nat.le_refl _)).2 (by simp) (by simp) fun d S3 hd hE3 => ?_
    have hdk : Dk 2 d := dk_mem (by first | rfl | decide +kernel) hd
    clear hd
    walk_at "ev*"
    exact ⟨_, rfl, dk_st (dk_ints is rfl 1) (dk_int 2 _) hdk, by first | exact hE2.trans (((Ex.refl hE2.bg).new _).trans hE3) | trivial⟩
  · have sl : ∀ S, slcD V none (some 2) S = .ok (.tup [.tup (is.map .int), .int b]) S := fun S => by rw [← hV]; rfl
    have ad : ∀ S, binD .add V (.tup [.int 1]) S = .ok (.tup [.tup (is.map .int), .int b, .int k, .int 1]) S := fun S => by rw [← hV]; exact b_addT S (by show 3 + 1 ≤ 16777216; decide)
    obtain ⟨q, a1⟩ : ∃ q, atI (is.map D.int) 0 = some (.int q) := by
      rw [at_nat (by decide) (by rw [List.length_map]; simp; omega)]
      exact ⟨_, by rw [List.getElem_map]⟩
    walk_at "ev*"
    walk_at "dv"
    refine wp_pickL (N := n + 3) (c := c) pk7 dr6 (by omega) (hE2.bg.app _) (ds := [.tup [.tup [], .int b, .int k], .tup [.tup (is.map .int), .int b], .tup [.tup (is.map .int), .int b, .int k, .int 1], .tup [.int q, .int b, .int k], .tup [.str (PySem.Str.ofString "12"), .int 1, .int 1]]) (at_new _ _) (nlg hE2.bg (Nat.le_refl _)).1 (nlg hE2.bg (Nat.le_refl _)).2 (by simp) (by simp) fun d S3 hd hE3 => ?_
    have hdk : Dk 3 d := by
      simp only [List.mem_cons, List.not_mem_nil, or_false] at hd
      have ht := dk_ints is rfl 1
      generalize is.map D.int = ts at *
      have hT : Dk 2 (.tup ts) := dk_tup ht
      rcases hd with rfl | rfl | rfl | rfl | rfl
      · exact dkB_ok (by first | rfl | decide +kernel)
      · refine dk_tup fun x hx => ?_
        simp only [List.mem_cons, List.not_mem_nil, or_false] at hx
        rcases hx with rfl | rfl
        · exact hT
        · exact dk_int 2 _
      · refine dk_tup fun x hx => ?_
        simp only [List.mem_cons, List.not_mem_nil, or_false] at hx
        rcases hx with rfl | rfl | rfl | rfl
        · exact hT
        all_goals exact dk_int 2 _
      · exact dkB_ok (by first | rfl | decide +kernel)
      · exact dkB_ok (by first | rfl | decide +kernel)
    clear hd
    walk_at "ev*"
    exact ⟨_, rfl, hdk, by first | exact hE2.trans (((Ex.refl hE2.bg).new _).trans hE3) | trivial⟩
  · skip
    walk_at "ev*"
    walk_at "dv"
    refine wp_pickL (N := n + 3) (c := c) pk7 dr6 (by omega) (hE2.bg.app _) (ds := [.non, .bl true, .str (PySem.Str.ofString "stream"), .tup [], .int 5, .tup (is.map .int)]) (at_new _ _) (nlg hE2.bg (Nat.le_refl _)).1 (nlg hE2.bg (Nat.le_refl _)).2 (by simp) (by simp) fun d S3 hd hE3 => ?_
    have hdk : Dk 3 d := by
      simp only [List.mem_cons, List.not_mem_nil, or_false] at hd
      have ht := dk_ints is rfl 2
      generalize is.map D.int = ts at *
      rcases hd with rfl | rfl | rfl | rfl | rfl | rfl
      all_goals first | exact dkB_ok (by first | rfl | decide +kernel) | exact dk_tup ht
    clear hd
    walk_at "ev*"
    exact ⟨_, rfl, hdk, by first | exact hE2.trans (((Ex.refl hE2.bg).new _).trans hE3) | trivial⟩
  · walk_at "ev*"
    exact ⟨_, rfl, dk_st (dk_ints is rfl 1) (dk_int 2 _) (dk_int 2 _), by first | exact hE2 | trivial⟩
/-! ### fates */ -/
theorem e_fatesof (n : Nat) {l g c : Nat} {S : Store} (hB : Bg l g c S) (lo hi many : Int) (h1 : 0 ≤ hi - lo) (h2 : hi - lo < 1000000) (m0 : 0 ≤ many) (m1 : many ≤ 1000) : ∃ d S', callN P (n + 4) 17 [.loc l, .int lo, .int hi, .int many] S = .ok d S' ∧ (∃ ds, d = .tup ds ∧ (ds.length : Int) = many ∧ ∀ x ∈ ds, Dk 0 x) ∧ Ex l g c S S' := by
  rw [callN_eq (n + 3) _ _ (fd := ⟨4, 5, b__law_fates_of, true⟩) rfl rfl (Nat.le_of_ble_eq_true rfl)]
  suffices H : Wp (exSs (callN P (n + 3)) b__law_fates_of [some (.loc l), some (.int lo), some (.int hi), some (.int many), none] S) fun r S' => ∃ d, r.1 = .ret d ∧ (∃ ds, d = .tup ds ∧ (ds.length : Int) = many ∧ ∀ x ∈ ds, Dk 0 x) ∧ Ex l g c S S' by
    obtain ⟨⟨fl, e⟩, S1, h, d, h3, hd, hE⟩ := H
    obtain rfl : fl = .ret d := h3
    obtain ⟨S2, a, b, _⟩ := ex_end (fd := ⟨4, 5, b__law_fates_of, true⟩) h rfl hE (by
      obtain ⟨ds, rfl, _, hk⟩ := hd
      exact dk_cl (k := 1) _ (dk_tup hk))
    exact ⟨d, S2, a, hd, b⟩
  unfold b__law_fates_of
  have r62 : R62 many := ⟨by omega, by omega⟩
  walk_at "ev*"
  walk_at "dv"
  refine wp_lc (Dk 0) hB (fun _ _ => here_none _ _) (by rw [rng_len]; omega) (fun d _ S' hE' => ⟨[some (.loc l), some (.int lo), some (.int hi), some (.int many), some d], rfl, ?_⟩) fun xs S2 hlen hxs hE2 => ?_
  · walk_at "ev*"
    walk_at "dv"
    refine wp_drawE (N := n + 3) (m := hi - lo + 1) dr6 (by omega) hE'.bg (by omega) (by omega) fun r S3 r0 r1 hE3 => ?_
    walk_at "ev*"
    walk_at "dv"
    refine wp_pickL (N := n + 3) (c := c) pk7 dr6 (by omega) (hE3.bg.app _) (ds := [.non, .int lo, .int hi, .int (lo + r)]) (at_new _ _) (nlg hE3.bg (Nat.le_refl _)).1 (nlg hE3.bg (Nat.le_refl _)).2 (by simp) (by simp) fun d S4 hd hE4 => ?_
    have hdk : Dk 0 d := dk_mem (by first | rfl | decide +kernel) hd
    exact ⟨hdk, hE'.trans (hE3.trans (((Ex.refl hE3.bg).new _).trans hE4))⟩
  · rw [rng_len] at hlen
    have g4 := at_new S2 (.lst xs)
    have hE3 := hE2.new [.lst xs]
    clear hE2
    walk_at "ev*"
    exact ⟨_, rfl, ⟨xs, rfl, by omega, hxs⟩, by first | exact hE3 | trivial⟩
end
end LW
namespace LW
open PySem PySem.Spec PyProof.Rows L2 SX
noncomputable section
open Classical
local macro_rules | `(tactic| walk_at "ev") => `(tactic| simp (config := { maxSteps := 3000000 }) (disch := first | assumption | omega | exact ⟨by omega, by omega⟩ | exact ⟨⟨by omega, by omega⟩, ⟨by omega, by omega⟩⟩ | exact Nat.le_of_ble_eq_true rfl | decide) only [Int.reduceEq, wp_ok, bnd_ok, bnd_bad, binJ_eq, binK_eq, notK_eq, cmpJ_eq, cmpK_eq, idxJ_eq, idxK_eq, calJ_eq, clkJ_eq, clkK_eq, priJ_eq, isiJ_eq, metJ_eq, metI_t, metK_eq, lcJ_eq, lcK_eq, conJ_eq, conK_eq, andJ_eq, orJ_eq, rg2J_eq, nxtK_eq, setI1_eq, setI2_eq, setI3_eq, retK_eq,  vE_var, varK_ok, vE_int, vE_bl, vE_non, vE_str, vE_tup, vE_lst, vE_bin, vE_neg, vE_not, vE_and, vE_or, vE_cmp, vE_ite, brE_t, brE_f, vE_idx, vE_slc, ab_c, ab_v, ab_b, ab_a, optI_int, if_ft, if_tt, s_tup, vE_call, vE_callk, vE_prim, vE_isin, vE_meth, vE_lc, vE_gcon, toD_int, toD_strs, vE_chain, chnI_eq, chnK_eq, chnJ_t, chnJ_f, vE_tupG, tgJ_eq, tgK_eq, vE_qual, qlK_eq, vE_sumG, smK_eq, vE_lc2, l2K_eq, vEs_nil, vEs_cons, vA_one, vA_cons, vO_one, vO_cons, andK_t, andK_f, orK_t, orK_f, vT_nil, vT_cons, vI_seq, seqK_tup, seqK_rls, seqK_loc, seqL_ok, vI_enum, enK_eq, vI_zip, zpJ_eq, zpK_eq, vI_range1, rg1_int, vI_range2, rg2_int,
  xS_asg, asgK_nm, asgT_nm, asgT_tp2, asgT_tp3, asgK_tp2, asgK_tp3, xS_par, parK_2, parK_3, xS_setS, xS_aug, augV_ok, augK_add, augK_sub, xS_augS, agR_some, agD_eq, agX_eq, agI_eq, agO_eq, idxM_loc, augD_add, augD_sub, xS_expr, xS_ret, xS_retN, xS_ite, brS_t, brS_f, xS_wh, whB_t, whB_f, whK_n, whK_c, whK_b, whK_r, xS_fo, foT_some, foK_n, foK_c, foK_b, foK_r, xS_brk, xS_cont, xS_pass, xS_callx, flX_non, flX_tup, xS_tryx, xS_retx, rtX_non, rtX_tup, xSs_nil, xSs_cons, sqK_n, sqK_r, sqK_b, sqK_c,
  b_add, b_sub, b_mul, b_mulL, b_mulR, b_fdiv, b_mod, b_pow, b_addT, b_addL, addL_ok, b_repT, k_lt, k_le, k_gt, k_ge, k_eq, k_ne, k_isN, k_notN, k_in, k_nin, tr_str, q_int, q_bl, q_str, ofB_some, Option.map_some, tr_bl, tr_int, tr_non, tr_tup, tr_loc, trK_ok, td_bl, td_int, td_tup, i_tup, i_rls, i_loc, idxL_ok, okV_some, at0, at1, at2, at3, at_m1, tupK_ok, lstK_ok, negK_int, p_abs, p_int, p_intB, p_lenT, p_lenR, p_lenL, lenL_ok, p_sorted, p_sum, intsL_ok, allInt_map, srtI_ok, smI_ok, p_max, p_min, p_tupT, p_tupL, tupL_ok, p_lstT, p_lstL, lstL_ok, isD_ok, m_app, appL_ok, m_pop, popL_ok, m_rev, revL_ok, recv_ok, recvL_ok, set_loc, setL_ok, setI_ok, new_eq, Bool.not_true, Bool.not_false, if_true, eq_self, decide_true, decide_false,
  List.set_cons_zero, List.set_cons_succ, List.getElem?_cons_zero, List.getElem?_cons_succ, List.length_cons, List.length_nil, Option.some.injEq])
local macro_rules | `(tactic| walk_at "ev*") => `(tactic| simp (config := { maxSteps := 3000000 }) (disch := first | assumption | omega | exact ⟨by omega, by omega⟩ | exact ⟨⟨by omega, by omega⟩, ⟨by omega, by omega⟩⟩ | exact Nat.le_of_ble_eq_true rfl | decide) only [Int.reduceEq, wp_ok, bnd_ok, bnd_bad, binJ_eq, binK_eq, notK_eq, cmpJ_eq, cmpK_eq, idxJ_eq, idxK_eq, calJ_eq, clkJ_eq, clkK_eq, priJ_eq, isiJ_eq, metJ_eq, metI_t, metK_eq, lcJ_eq, lcK_eq, conJ_eq, conK_eq, andJ_eq, orJ_eq, rg2J_eq, nxtK_eq, setI1_eq, setI2_eq, setI3_eq, retK_eq,  vE_var, varK_ok, vE_int, vE_bl, vE_non, vE_str, vE_tup, vE_lst, vE_bin, vE_neg, vE_not, vE_and, vE_or, vE_cmp, vE_ite, brE_t, brE_f, vE_idx, vE_slc, ab_c, ab_v, ab_b, ab_a, optI_int, if_ft, if_tt, s_tup, vE_call, vE_callk, vE_prim, vE_isin, vE_meth, vE_lc, vE_gcon, toD_int, toD_strs, vE_chain, chnI_eq, chnK_eq, chnJ_t, chnJ_f, vE_tupG, tgJ_eq, tgK_eq, vE_qual, qlK_eq, vE_sumG, smK_eq, vE_lc2, l2K_eq, vEs_nil, vEs_cons, vA_one, vA_cons, vO_one, vO_cons, andK_t, andK_f, orK_t, orK_f, vT_nil, vT_cons, vI_seq, seqK_tup, seqK_rls, seqK_loc, seqL_ok, vI_enum, enK_eq, vI_zip, zpJ_eq, zpK_eq, vI_range1, rg1_int, vI_range2, rg2_int,
  xS_asg, asgK_nm, asgT_nm, asgT_tp2, asgT_tp3, asgK_tp2, asgK_tp3, xS_par, parK_2, parK_3, xS_setS, xS_aug, augV_ok, augK_add, augK_sub, xS_augS, agR_some, agD_eq, agX_eq, agI_eq, agO_eq, idxM_loc, augD_add, augD_sub, xS_expr, xS_ret, xS_retN, xS_ite, brS_t, brS_f, xS_wh, whB_t, whB_f, whK_n, whK_c, whK_b, whK_r, xS_fo, foT_some, foK_n, foK_c, foK_b, foK_r, xS_brk, xS_cont, xS_pass, xS_callx, flX_non, flX_tup, xS_tryx, xS_retx, rtX_non, rtX_tup, xSs_nil, xSs_cons, sqK_n, sqK_r, sqK_b, sqK_c,
  b_add, b_sub, b_mul, b_mulL, b_mulR, b_fdiv, b_mod, b_pow, b_addT, b_addL, addL_ok, b_repT, k_lt, k_le, k_gt, k_ge, k_eq, k_ne, k_isN, k_notN, k_in, k_nin, tr_str, q_int, q_bl, q_str, ofB_some, Option.map_some, tr_bl, tr_int, tr_non, tr_tup, tr_loc, trK_ok, td_bl, td_int, td_tup, i_tup, i_rls, i_loc, idxL_ok, okV_some, at0, at1, at2, at3, at_m1, tupK_ok, lstK_ok, negK_int, p_abs, p_int, p_intB, p_lenT, p_lenR, p_lenL, lenL_ok, p_sorted, p_sum, intsL_ok, allInt_map, srtI_ok, smI_ok, p_max, p_min, p_tupT, p_tupL, tupL_ok, p_lstT, p_lstL, lstL_ok, isD_ok, m_app, appL_ok, m_pop, popL_ok, m_rev, revL_ok, recv_ok, recvL_ok, set_loc, setL_ok, setI_ok, new_eq, Bool.not_true, Bool.not_false, if_true, eq_self, decide_true, decide_false,
  List.set_cons_zero, List.set_cons_succ, List.getElem?_cons_zero, List.getElem?_cons_succ, List.length_cons, List.length_nil, Option.some.injEq, *])
local macro_rules | `(tactic| walk_at "evs") => `(tactic| simp (config := { maxSteps := 3000000 }) (disch := first | assumption | omega | exact ⟨by omega, by omega⟩ | exact ⟨⟨by omega, by omega⟩, ⟨by omega, by omega⟩⟩ | exact Nat.le_of_ble_eq_true rfl | decide) only [Int.reduceEq, wp_ok, bnd_ok, bnd_bad, binJ_eq, binK_eq, notK_eq, cmpJ_eq, cmpK_eq, idxJ_eq, idxK_eq, calJ_eq, clkJ_eq, clkK_eq, priJ_eq, isiJ_eq, metJ_eq, metI_t, metK_eq, lcJ_eq, lcK_eq, conJ_eq, conK_eq, andJ_eq, orJ_eq, rg2J_eq, nxtK_eq, setI1_eq, setI2_eq, setI3_eq, retK_eq,  vE_var, varK_ok, vE_int, vE_bl, vE_non, vE_str, vE_tup, vE_lst, vE_bin, vE_neg, vE_not, vE_and, vE_or, vE_cmp, vE_ite, brE_t, brE_f, vE_idx, vE_slc, ab_c, ab_v, ab_b, ab_a, optI_int, if_ft, if_tt, s_tup, vE_call, vE_callk, vE_prim, vE_isin, vE_meth, vE_lc, vE_gcon, toD_int, toD_strs, vE_chain, chnI_eq, chnK_eq, chnJ_t, chnJ_f, vE_tupG, tgJ_eq, tgK_eq, vE_qual, qlK_eq, vE_sumG, smK_eq, vE_lc2, l2K_eq, vEs_nil, vEs_cons, vA_one, vA_cons, vO_one, vO_cons, andK_t, andK_f, orK_t, orK_f, vT_nil, vT_cons, vI_seq, seqK_tup, seqK_rls, seqK_loc, seqL_ok, vI_enum, enK_eq, vI_zip, zpJ_eq, zpK_eq, vI_range1, rg1_int, vI_range2, rg2_int,
  xS_asg, asgK_nm, asgT_nm, asgT_tp2, asgT_tp3, asgK_tp2, asgK_tp3, xS_par, parK_2, parK_3, xS_setS, xS_aug, augV_ok, augK_add, augK_sub, xS_augS, agR_some, agD_eq, agX_eq, agI_eq, agO_eq, idxM_loc, augD_add, augD_sub, xS_expr, xS_ret, xS_retN, xS_ite, brS_t, brS_f, xS_wh, whB_t, whB_f, whK_n, whK_c, whK_b, whK_r, xS_fo, foT_some, foK_n, foK_c, foK_b, foK_r, xS_brk, xS_cont, xS_pass, xS_callx, flX_non, flX_tup, xS_tryx, xS_retx, rtX_non, rtX_tup, xSs_nil, xSs_cons, sqK_n, sqK_r, sqK_b, sqK_c,
  b_add, b_sub, b_mul, b_mulL, b_mulR, b_fdiv, b_mod, b_pow, b_addT, b_addL, addL_ok, b_repT, k_lt, k_le, k_gt, k_ge, k_eq, k_ne, k_isN, k_notN, k_in, k_nin, tr_str, q_int, q_bl, q_str, ofB_some, Option.map_some, tr_bl, tr_int, tr_non, tr_tup, tr_loc, trK_ok, td_bl, td_int, td_tup, i_tup, i_rls, i_loc, idxL_ok, okV_some, at0, at1, at2, at3, at_m1, tupK_ok, lstK_ok, negK_int, p_abs, p_int, p_intB, p_lenT, p_lenR, p_lenL, lenL_ok, p_sorted, p_sum, intsL_ok, allInt_map, srtI_ok, smI_ok, p_max, p_min, p_tupT, p_tupL, tupL_ok, p_lstT, p_lstL, lstL_ok, isD_ok, m_app, appL_ok, m_pop, popL_ok, m_rev, revL_ok, recv_ok, recvL_ok, set_loc, setL_ok, setI_ok, new_eq, Bool.not_true, Bool.not_false, if_true, eq_self, decide_true, decide_false,
  List.set_cons_zero, List.set_cons_succ, List.getElem?_cons_zero, List.getElem?_cons_succ, List.length_cons, List.length_nil, Option.some.injEq, List.cons_append, List.nil_append, List.append_assoc, Nat.reduceAdd, st_get, st_get0, st_set, st_set0, List.length_append, Nat.add_zero, Nat.zero_add, *])

local macro_rules | `(tactic| walk_at "dv") => `(tactic| repeat with_reducible first | refine wp_bnd ?_ | refine wp_tru ?_ | refine wp_optI ?_)
theorem get_app {S : Store} {j : Nat} {o : SO} (h : S[j]? = some o) (X : Store) : (S ++ X)[j]? = some o := by
  rw [List.getElem?_append_left (List.getElem?_eq_some_iff.mp h).1]
  exact h
def V4 (v : D) : Prop := Dk 4 v ∧ ∀ ds, v = .tup ds → ds.length ≤ 1000
theorem v4_sc {v : D} (h : Dk 4 v) (hn : ∀ ds, v ≠ .tup ds) : V4 v := ⟨h, fun ds e => absurd e (hn ds)⟩
theorem v4_tup {ds : List D} (h : ∀ x ∈ ds, Dk 3 x) (hl : ds.length ≤ 1000) : V4 (.tup ds) := ⟨dk_tup h, fun es e => by cases e; exact hl⟩
def v4B (v : D) : Bool := dkB 4 v && (match v with
  | .tup ds => decide (ds.length ≤ 1000)
  | _ => true)
theorem v4_ok {v : D} (h : v4B v = true) : V4 v := by
  unfold v4B at h
  rw [Bool.and_eq_true] at h
  refine ⟨dkB_ok h.1, fun ds e => ?_⟩
  subst e
  exact of_decide_eq_true h.2
theorem v4_mem {vs : List D} (h : vs.all v4B = true) : ∀ v ∈ vs, V4 v := fun v hv => v4_ok (List.all_eq_true.mp h v hv)
theorem all_app {p : D → Prop} {xs ys : List D} (h1 : ∀ x ∈ xs, p x) (h2 : ∀ x ∈ ys, p x) : ∀ x ∈ xs ++ ys, p x := fun x hx => (List.mem_append.mp hx).elim (h1 x) (h2 x)
theorem all_cons {p : D → Prop} {x : D} {ys : List D} (h1 : p x) (h2 : ∀ x ∈ ys, p x) : ∀ z ∈ x :: ys, p z := fun z hz => (List.mem_cons.mp hz).elim (fun e => e ▸ h1) (h2 z)
theorem all_nil {p : D → Prop} : ∀ z ∈ ([] : List D), p z := fun z hz => by cases hz
theorem dk_sts {m : Int} {d : D} (h : StS m d) : Dk 3 d := by
  obtain ⟨is, b, k, rfl, _⟩ := h
  exact dk_st (dk_ints is rfl 1) (dk_int 2 _) (dk_int 2 _)
theorem dk_exf {k : Nat} {ds : List D} {i : Int} {x : D} (h : ∀ y ∈ ds, Dk k y) (hx : Dk k x) : ∀ y ∈ exF ds i x, Dk k y := fun y hy => by
  rcases ex_mem hy with rfl | hy
  · exact hx
  · exact h y hy
/-! ### the values */ -/
structure DvI (l g c : Nat) (S : Store) (m : Nat) (e : SX.Env) (S' : Store) : Prop where
  ex : ∃ (j : Nat) (fs : List D) (o2 o3 o4 : Option D), e = [some (.loc l), some (.loc j), o2, o3, o4, none, none] ∧ S'[j]? = some (.lst fs) ∧ fs.length = 7 + 5 * m ∧ (∀ x ∈ fs, V4 x)
  le : ∀ j : Nat, e[1]? = some (some (.loc j)) → S.length ≤ j
  he : Ex l g c S S'
def dvB : Ss := .cons (.asg (.nm 3) (.call 13 (.cons (.var 0) .nil))) (.cons (.asg (.nm 4) (.call 6 (.cons (.var 0) (.cons (.prim .len (.cons (.var 3) .nil)) .nil)))) (.cons (.asg (.nm 1) (.bin .add (.var 1) (.lst (.cons (.var 3) (.cons (.call 14 (.cons (.var 3) (.cons (.var 4) (.cons (.call 15 (.cons (.var 0) (.cons (.idx (.var 3) (.var 4)) .nil))) .nil)))) .nil))))) (.cons (.expr (.meth .append (.var 1) (.cons (.call 14 (.cons (.idx (.var 1) (.neg (.cint 1))) (.cons (.call 6 (.cons (.var 0) (.cons (.prim .len (.cons (.var 3) .nil)) .nil))) (.cons (.call 15 (.cons (.var 0) (.cons (.idx (.var 3) (.cint 0)) .nil))) .nil)))) .nil))) (.cons (.asg (.nm 1) (.bin .add (.var 1) (.lst (.cons (.bin .add (.var 3) (.tup (.cons (.call 12 (.cons (.var 0) (.cons (.cint 1) .nil))) .nil))) (.cons (.call 14 (.cons (.var 3) (.cons (.var 4) (.cons (.tup (.cons (.bin .add (.idx (.idx (.var 3) (.var 4)) (.cint 0)) (.bin .mul (.tup (.cons (.cint 100000) .nil)) (.cint 59))) (.cons (.idx (.idx (.var 3) (.var 4)) (.cint 1)) (.cons (.idx (.idx (.var 3) (.var 4)) (.cint 2)) .nil)))) .nil)))) .nil))))) .nil))))
theorem dv_turn (n : Nat) {l g c : Nat} {S : Store} (m : Nat) (hm : m < 9) (e : SX.Env) (S0 : Store) (hI : DvI l g c S m e S0) (o : Int) : ∃ e1, asgT (.nm 2) (.int o) S0 e = some e1 ∧ Wp (exSs (callN P (n + 7)) dvB e1 S0) fun r S' => r.1 = .next ∧ DvI l g c S (m + 1) r.2 S' := by
  obtain ⟨⟨j, fs, o2, o3, o4, rfl, g0, hfl, hfs⟩, hj, hE⟩ := hI
  have hj := hj j rfl
  refine ⟨[some (.loc l), some (.loc j), some (.int o), o3, o4, none, none], rfl, ?_⟩
  have L0 : LINE = 16777216 := rfl
  have wl := hE.here hj
  unfold dvB
  refine wp_seq (fun e S1 => ∃ ds, e = [some (.loc l), some (.loc j), some (.int o), some (.tup ds), o4, none, none] ∧ DaS (.tup ds) ∧ S1[j]? = some (.lst fs) ∧ Ex l g c S S1) ?_ ?_
  · walk_at "ev*"
    refine wp_bnd ?_
    refine wp_fn (Post := DaS) (e_dataof (n + 1) hE.bg) fun d S1 hd hE1 => ?_
    obtain ⟨ds, rfl, hd'⟩ := hd
    walk_at "ev"
    exact ⟨trivial, ds, rfl, ⟨ds, rfl, hd'⟩, hE1.get g0 wl.1 wl.2, hE.trans hE1⟩
  clear hE g0
  rintro e S1 ⟨ds, rfl, ⟨_, hds0, hd1, hd2, hds⟩, g1, hE1⟩
  cases hds0
  have hdk : ∀ x ∈ ds, Dk 3 x := fun x hx => by
    obtain ⟨m, _, _, h⟩ := hds x hx
    exact dk_sts h
  refine wp_seq (fun e S2 => ∃ k : Nat, e = [some (.loc l), some (.loc j), some (.int o), some (.tup ds), some (.int (k : Int)), none, none] ∧ k < ds.length ∧ S2[j]? = some (.lst fs) ∧ Ex l g c S S2) ?_ ?_
  · have l0 : ∀ S, primD .len [.tup ds] S = .ok (.int ds.length) S := fun S => rfl
    clear hds hfs hdk
    walk_at "ev*"
    walk_at "dv"
    refine wp_drawE (N := n + 7) (m := ds.length) dr6 (by omega) hE1.bg (by omega) (by omega) fun r S2 r0 r1 hE2 => ?_
    have g2 := hE1.trans hE2
    have q2 := hE2.get g1 wl.1 wl.2
    clear l0 hE2 hE1 g1
    walk_at "ev"
    exact ⟨trivial, r.toNat, by rw [Int.toNat_of_nonneg r0], by omega, q2, g2⟩
  clear g1 hE1
  rintro e S2 ⟨k, rfl, hk, g2, hE2⟩
  obtain ⟨mk, mk0, mk1, is, b, kk, hdsk, hisl⟩ := hds ds[k] (List.getElem_mem hk)
  obtain ⟨m0, m00, m01, is0, b0, kk0, hds0, his0⟩ := hds ds[0] (List.getElem_mem (by omega))
  have x1 : ∀ k x S, callN P (n + 7) 14 [.tup ds, .int k, x] S = .ok (.tup (exF ds k x)) S := fun k x S => e_exch (n + 6) ds k x S (by omega)
  have ak : ∀ S, idxD (.tup ds) (.int (k : Int)) S = .ok (.tup [.tup (is.map .int), .int b, .int kk]) S := fun S => by
    show okV (atI ds (k : Int)) S = _
    rw [at_nat (by omega) (by omega)]
    simp only [Int.toNat_natCast]
    rw [hdsk]; rfl
  have a0 : ∀ S, idxD (.tup ds) (.int 0) S = .ok (.tup [.tup (is0.map .int), .int b0, .int kk0]) S := fun S => by
    show okV (atI ds 0) S = _
    rw [at_nat (by decide) (by simp; omega)]
    show okV (some ds[0]) S = _
    rw [hds0]; rfl
  clear hds hdsk hds0
  refine wp_seq (fun e S3 => ∃ (j' : Nat) (hs : List D) (zs : List D), e = [some (.loc l), some (.loc j'), some (.int o), some (.tup ds), some (.int (k : Int)), none, none] ∧ S3[j']? = some (.lst (hs ++ [.tup zs])) ∧ hs.length = 7 + 5 * m + 1 ∧ (∀ x ∈ hs, V4 x) ∧ (∀ x ∈ zs, Dk 3 x) ∧ zs.length ≤ 7 ∧ S.length ≤ j' ∧ Ex l g c S S3) ?_ ?_
  · clear x1 a0
    revert hfs hdk
    walk_at "ev*"
    intro hfs hdk
    walk_at "dv"
    refine wp_fn (Post := Dk 3) (e_spoilt (n + 3) hE2.bg is b kk (by omega) (by omega)) fun x S3 hx hE3 => ?_
    have hE4 := hE2.trans hE3
    have x1 : ∀ S, callN P (n + 7) 14 [.tup ds, .int (k : Int), x] S = .ok (.tup (exF ds k x)) S := fun S => e_exch (n + 6) ds k x S (by omega)
    have g3 := get_app (hE3.get g2 wl.1 wl.2)
    have an := at_new
    have hb : fs.length + [D.tup ds, .tup (exF ds k x)].length ≤ LINE := by rw [L0]; simp only [List.length_cons, List.length_nil]; omega
    have hfl' := hfl
    clear hfl hE2 hE3 g2 ak mk0 mk1 hisl m00 m01 his0
    revert hfl' hfs hdk
    walk_at "ev*"
    intro hfs hdk hfl
    refine ⟨trivial, (S3 ++ [SO.lst [.tup ds, .tup (exF ds k x)]]).length, fs ++ [.tup ds], exF ds k x, by first | rfl | trivial | simp, ?_, ?_, ?_, ?_, ?_, ?_, ?_⟩
    · simp
    · rw [List.length_append]; simp; omega
    · exact all_app hfs (all_cons (v4_tup hdk (by omega)) all_nil)
    · exact dk_exf hdk hx
    · have := ex_len ds k x; omega
    · have := hE4.len; simp; omega
    · exact (hE4.new _).new _
  clear g2 hE2 wl hfs
  rintro e S3 ⟨j', hs, zs, rfl, g3, hhl, hhs, hzs, hzl, hj', hE3⟩
  have wl := hE3.here hj'
  refine wp_seq (fun e S4 => ∃ (gs : List D), e = [some (.loc l), some (.loc j'), some (.int o), some (.tup ds), some (.int (k : Int)), none, none] ∧ S4[j']? = some (.lst gs) ∧ gs.length = 7 + 5 * m + 3 ∧ (∀ x ∈ gs, V4 x) ∧ Ex l g c S S4) ?_ ?_
  · have l0 : ∀ S, primD .len [.tup ds] S = .ok (.int ds.length) S := fun S => rfl
    clear x1 ak
    revert hhl hhs hzs hdk
    walk_at "ev*"
    intro hdk hhl hhs hzs
    walk_at "dv"
    refine wp_drawE (N := n + 7) (m := ds.length) dr6 (by omega) hE3.bg (by omega) (by omega) fun r S4 r0 r1 hE4 => ?_
    have g4 := hE4.get g3 wl.1 wl.2
    have hE5 := hE3.trans hE4
    clear g3 hE3 hE4
    revert hhl hhs hzs hdk
    walk_at "ev*"
    intro hdk hhl hhs hzs
    walk_at "dv"
    refine wp_fn (Post := Dk 3) (e_spoilt (n + 3) hE5.bg is0 b0 kk0 (by omega) (by omega)) fun x S5 hx hE6 => ?_
    have g5 := hE6.get g4 wl.1 wl.2
    have hE7 := hE5.trans hE6
    have x1 : ∀ S, callN P (n + 7) 14 [.tup zs, .int r, x] S = .ok (.tup (exF zs r x)) S := fun S => e_exch (n + 6) zs r x S (by omega)
    have hb : (hs ++ [D.tup zs]).length < LINE := by rw [L0, List.length_append]; simp only [List.length_cons, List.length_nil]; omega
    have lt := get_lt g5
    clear g4 hE5 hE6 a0 mk0 mk1 hisl m00 m01 his0 l0
    revert hhl hhs hzs hdk
    walk_at "ev*"
    intro hdk hhl hhs hzs
    refine ⟨trivial, hs ++ [D.tup zs] ++ [D.tup (exF zs r x)], by first | rfl | trivial | simp, ?_, ?_, ?_, ?_⟩
    · rw [List.getElem?_set_self lt]
    · simp only [List.length_append, List.length_cons, List.length_nil]; omega
    · exact all_app (all_app hhs (all_cons (v4_tup hzs (by omega)) all_nil)) (all_cons (v4_tup (dk_exf hzs hx) (by have := ex_len zs r x; omega)) all_nil)
    · exact hE7.set hj' _
  clear g3 hE3 hhs hhl
  rintro e S4 ⟨gs, rfl, g4, hgl, hgs, hE4⟩
  refine wp_mono (Q := fun r S' => ∃ (j5 : Nat) (us : List D), r = (.next, [some (.loc l), some (.loc j5), some (.int o), some (.tup ds), some (.int (k : Int)), none, none]) ∧ S'[j5]? = some (.lst us) ∧ us.length = 7 + 5 * (m + 1) ∧ (∀ x ∈ us, V4 x) ∧ S.length ≤ j5 ∧ Ex l g c S S') ?_ ?_
  · have bR : ∀ S, binD .mul (.tup [.int 100000]) (.int 59) S = .ok (.tup (List.replicate 59 [D.int 100000]).flatten) S := fun S => b_repT S ⟨by simp, by decide, by decide, by decide⟩
    have hR : (List.replicate 59 [D.int 100000]).flatten.length = 59 := by decide
    have hRm : ∀ x ∈ (List.replicate 59 [D.int 100000]).flatten, Dk 1 x := by
      intro x hx
      rw [rep_flat] at hx
      rw [List.eq_of_mem_replicate hx]
      exact dk_int 1 _
    generalize (List.replicate 59 [D.int 100000]).flatten = R at *
    have bA : ∀ S, binD .add (.tup (is.map .int)) (.tup R) S = .ok (.tup (is.map .int ++ R)) S := fun S => b_addT S (by rw [List.length_map, L0]; omega)
    have hAm := all_app (dk_ints is rfl 1) hRm
    have q0 : ∀ S, idxD (.tup [.tup (is.map .int), .int b, .int kk]) (.int 0) S = .ok (.tup (is.map .int)) S := fun S => rfl
    have q1 : ∀ S, idxD (.tup [.tup (is.map .int), .int b, .int kk]) (.int 1) S = .ok (.int b) S := fun S => rfl
    have q2 : ∀ S, idxD (.tup [.tup (is.map .int), .int b, .int kk]) (.int 2) S = .ok (.int kk) S := fun S => rfl
    generalize D.tup [.tup (is.map .int), .int b, .int kk] = VV at *
    generalize is.map D.int ++ R = AR at *
    generalize is.map D.int = TS at *
    clear a0 hR
    revert hgl hgs hdk hRm hAm
    walk_at "ev*"
    intro hdk hgl hgs hRm hAm
    walk_at "dv"
    refine wp_fn (Post := StS 1) (e_streamof (n + 3) hE4.bg 1 (by decide) (by decide)) fun x S5 hx hE5 => ?_
    have g5 := get_app (hE5.get g4 wl.1 wl.2)
    have hE6 := hE4.trans hE5
    have an := at_new
    have bD : ∀ S, binD .add (.tup ds) (.tup [x]) S = .ok (.tup (ds ++ [x])) S := fun S => b_addT S (by rw [L0]; simp only [List.length_cons, List.length_nil]; omega)
    have hb : gs.length + [D.tup (ds ++ [x]), .tup (exF ds k (.tup [.tup AR, .int b, .int kk]))].length ≤ LINE := by rw [L0]; simp only [List.length_cons, List.length_nil]; omega
    have hx' := dk_sts hx
    clear hE4 hE5 g4 hx
    revert hgl hgs hdk hRm hAm hx'
    walk_at "ev*"
    intro hdk hgl hgs hRm hAm hx'
    refine ⟨_, gs ++ [.tup (ds ++ [x]), .tup (exF ds k (.tup [.tup AR, .int b, .int kk]))], rfl, ?_, ?_, ?_, ?_, ?_⟩
    · simp
    · rw [List.length_append]; simp; omega
    · exact all_app hgs (all_cons (v4_tup (all_app hdk (all_cons hx' all_nil)) (by rw [List.length_append]; simp; omega)) (all_cons (v4_tup (dk_exf hdk (dk_st hAm (dk_int 2 _) (dk_int 2 _))) (by have := ex_len ds k (.tup [.tup AR, .int b, .int kk]); omega)) all_nil))
    · have := hE6.len; simp; omega
    · exact (hE6.new _).new _
  · rintro _ S' ⟨j5, us, rfl, g5, hul, hus, hj5, hE5⟩
    exact ⟨rfl, ⟨j5, us, _, _, _, rfl, g5, hul, hus⟩, fun j h => by cases h; exact hj5, hE5⟩
theorem e_datavalues (n : Nat) {l g c : Nat} {S : Store} (hB : Bg l g c S) : ∃ (j : Nat) (fs : List D) (S' : Store), callN P (n + 8) 16 [.loc l] S = .ok (.loc j) S' ∧ S'[j]? = some (.lst fs) ∧ (∀ x ∈ fs, V4 x) ∧ fs.length ≤ 200 ∧ S.length ≤ j ∧ Ex l g c S S' := by
  rw [callN_eq (n + 7) _ _ (fd := ⟨1, 7, b__law_data_values, false⟩) rfl rfl (Nat.le_of_ble_eq_true rfl)]
  suffices H : Wp (exSs (callN P (n + 7)) b__law_data_values [some (.loc l), none, none, none, none, none, none] S) fun r S' => ∃ (j : Nat) (fs : List D), r.1 = .ret (.loc j) ∧ S'[j]? = some (.lst fs) ∧ (∀ x ∈ fs, V4 x) ∧ fs.length ≤ 200 ∧ S.length ≤ j ∧ Ex l g c S S' by
    obtain ⟨⟨fl, e⟩, S1, h, j, fs, h3, g1, h4, h5, h6, hE⟩ := H
    obtain rfl : fl = .ret (.loc j) := h3
    exact ⟨j, fs, S1, end_any h rfl, g1, h4, h5, h6, hE⟩
  have L0 : LINE = 16777216 := rfl
  unfold b__law_data_values
  refine wp_seq (DvI l g c S 0) ?_ ?_
  · walk_at "ev"
    exact ⟨trivial, ⟨S.length, _, _, _, _, rfl, at_new _ _, rfl, v4_mem (by first | rfl | decide +kernel)⟩, fun j h => by cases h; exact Nat.le_refl _, (Ex.refl hB).new _⟩
  intro e S1 h1
  refine wp_seq (fun e S2 => DvI l g c S 9 e S2) ?_ ?_
  · have r62 : R62 9 := ⟨by decide, by decide⟩
    rw [xS_fo, show evIt (callN P (n + 7)) (.range1 (.cint 9)) e S1 = .ok ⟨rngK 0 9, none⟩ S1 from by clear h1; walk_at "ev*", bnd_ok]
    obtain ⟨e2, s2, hf, hI⟩ := fo_cnt (callN P (n + 7)) (.nm 2) dvB ⟨rngK 0 9, none⟩ (DvI l g c S) (fun _ _ _ _ => here_none _ _) 9 (rngK 0 9) 0 (by rw [rng_len]; decide) (fun d hd k e s hk hI => by
      obtain ⟨o, rfl, _, _⟩ := rng_mem hd
      exact dv_turn n k hk e s hI o) e S1 h1
    exact ⟨(.next, e2), s2, hf, rfl, hI⟩
  rintro e S2 ⟨⟨j, fs, o2, o3, o4, rfl, g2, hfl, hfs⟩, hj, hE2⟩
  have hj := hj j rfl
  have wl := hE2.here hj
  refine wp_seq (fun e S3 => ∃ one, e = [some (.loc l), some (.loc j), o2, o3, o4, some one, none] ∧ StS 1 one ∧ S3[j]? = some (.lst fs) ∧ Ex l g c S S3) ?_ ?_
  · clear hfs
    walk_at "ev*"
    refine wp_bnd ?_
    refine wp_fn (Post := StS 1) (e_streamof (n + 3) hE2.bg 1 (by decide) (by decide)) fun x S3 hx hE3 => ?_
    have q1 := hE3.get g2 wl.1 wl.2
    have q2 := hE2.trans hE3
    clear hE3 hE2 g2
    walk_at "ev"
    exact ⟨trivial, x, rfl, hx, q1, q2⟩
  rintro e S3 ⟨one, rfl, h1, g3, hE3⟩
  refine wp_seq (fun e S4 => ∃ sixty, e = [some (.loc l), some (.loc j), o2, o3, o4, some one, some sixty] ∧ StS 60 sixty ∧ S4[j]? = some (.lst fs) ∧ Ex l g c S S4) ?_ ?_
  · clear hfs h1
    walk_at "ev*"
    refine wp_bnd ?_
    refine wp_fn (Post := StS 60) (e_streamof (n + 3) hE3.bg 60 (by decide) (by decide)) fun x S4 hx hE4 => ?_
    have q1 := hE4.get g3 wl.1 wl.2
    have q2 := hE3.trans hE4
    clear hE3 hE4 g3 hE2
    walk_at "ev"
    exact ⟨trivial, x, rfl, hx, q1, q2⟩
  rintro e S4 ⟨sixty, rfl, h2, g4, hE4⟩
  have d1 := dk_sts h1
  have d2 := dk_sts h2
  clear hE3 g3 hE2 g2
  refine wp_seq (fun e S5 => ∃ (i : Nat) (gs : List D), e = [some (.loc l), some (.loc i), o2, o3, o4, some one, some sixty] ∧ S5[i]? = some (.lst gs) ∧ gs.length = 59 ∧ (∀ x ∈ gs, V4 x) ∧ S.length ≤ i ∧ Ex l g c S S5) ?_ ?_
  · have g5 := get_app g4
    have an := at_new
    have hb : fs.length + [D.tup [sixty], .tup [sixty, one], .tup [one, sixty], .tup [sixty, one, .non], .tup [sixty, one, one, one], .tup [sixty, .non], one].length ≤ LINE := by rw [hfl, L0]; simp
    have hg : ∀ x ∈ fs ++ [D.tup [sixty], .tup [sixty, one], .tup [one, sixty], .tup [sixty, one, .non], .tup [sixty, one, one, one], .tup [sixty, .non], one], V4 x := by
      have h3 : ∀ x ∈ [sixty, one, D.non], Dk 3 x := all_cons d2 (all_cons d1 (all_cons (dk_non 3) all_nil))
      have m1 : ∀ ds : List D, (∀ x ∈ ds, x ∈ [sixty, one, D.non]) → ds.length ≤ 1000 → V4 (.tup ds) := fun ds h hl => v4_tup (fun x hx => h3 x (h x hx)) hl
      have v1 : V4 one := by
        obtain ⟨is, b, k, rfl, _⟩ := h1
        exact v4_tup (fun x hx => (dk_of d1 x hx).up) (by simp)
      exact all_app hfs (all_cons (m1 _ (by simp) (by simp)) (all_cons (m1 _ (by simp) (by simp)) (all_cons (m1 _ (by simp) (by simp)) (all_cons (m1 _ (by simp) (by simp)) (all_cons (m1 _ (by simp) (by simp)) (all_cons (m1 _ (by simp) (by simp)) (all_cons v1 all_nil)))))))
    revert hfl hg
    clear hfs d1 d2 h1 h2
    walk_at "ev*"
    intro hfl hg
    refine ⟨trivial, _, _, rfl, ?_, ?_, hg, ?_, ?_⟩
    · simp
    · rw [List.length_append, hfl]; rfl
    · have := hE4.len; simp; omega
    · exact (hE4.new _).new _
  clear g4 hE4 wl hj hfs hfl h2 d2
  rintro e S5 ⟨i, gs, rfl, g5, hgl, hgs, hi, hE5⟩
  have r3 : ∀ S, binD .mul (.tup [one]) (.int 3) S = .ok (.tup [one, one, one]) S := fun S => b_repT S ⟨by simp, by decide, by decide, by simp⟩
  have r4 : ∀ S, binD .mul (.tup [one]) (.int 4) S = .ok (.tup [one, one, one, one]) S := fun S => b_repT S ⟨by simp, by decide, by decide, by simp⟩
  have r5 : ∀ S, binD .mul (.tup [one]) (.int 5) S = .ok (.tup [one, one, one, one, one]) S := fun S => b_repT S ⟨by simp, by decide, by decide, by simp⟩
  have g6 := get_app g5
  have an := at_new
  have hb : gs.length + [D.tup [one, one, one], .tup [one, one, one, one], .tup [one, one, one, one, one], .tup [one, one, one, .non], .tup [one, .non, one, one]].length ≤ LINE := by rw [hgl, L0]; simp
  have hg : ∀ x ∈ gs ++ [D.tup [one, one, one], .tup [one, one, one, one], .tup [one, one, one, one, one], .tup [one, one, one, .non], .tup [one, .non, one, one]], V4 x := by
    have h3 : ∀ x ∈ [one, D.non], Dk 3 x := all_cons d1 (all_cons (dk_non 3) all_nil)
    have m1 : ∀ ds : List D, (∀ x ∈ ds, x ∈ [one, D.non]) → ds.length ≤ 1000 → V4 (.tup ds) := fun ds h hl => v4_tup (fun x hx => h3 x (h x hx)) hl
    exact all_app hgs (all_cons (m1 _ (by simp) (by simp)) (all_cons (m1 _ (by simp) (by simp)) (all_cons (m1 _ (by simp) (by simp)) (all_cons (m1 _ (by simp) (by simp)) (all_cons (m1 _ (by simp) (by simp)) all_nil)))))
  revert hgl hg
  clear hgs d1 h1 g5
  walk_at "ev*"
  intro hgl hg
  refine ⟨_, _, rfl, ?_, hg, ?_, ?_, ?_⟩
  · simp
  · rw [List.length_append, hgl]; simp
  · have := hE5.len; simp; omega
  · exact (hE5.new _).new _
end
end LW
namespace LW
open PySem PySem.Spec PyProof.Rows L2 SX
noncomputable section
open Classical
local macro_rules | `(tactic| walk_at "ev") => `(tactic| simp (config := { maxSteps := 3000000 }) (disch := first | assumption | omega | exact ⟨by omega, by omega⟩ | exact ⟨⟨by omega, by omega⟩, ⟨by omega, by omega⟩⟩ | exact Nat.le_of_ble_eq_true rfl | decide) only [Int.reduceEq, wp_ok, bnd_ok, bnd_bad, binJ_eq, binK_eq, notK_eq, cmpJ_eq, cmpK_eq, idxJ_eq, idxK_eq, calJ_eq, clkJ_eq, clkK_eq, priJ_eq, isiJ_eq, metJ_eq, metI_t, metK_eq, lcJ_eq, lcK_eq, conJ_eq, conK_eq, andJ_eq, orJ_eq, rg2J_eq, nxtK_eq, setI1_eq, setI2_eq, setI3_eq, retK_eq,  vE_var, varK_ok, vE_int, vE_bl, vE_non, vE_str, vE_tup, vE_lst, vE_bin, vE_neg, vE_not, vE_and, vE_or, vE_cmp, vE_ite, brE_t, brE_f, vE_idx, vE_slc, ab_c, ab_v, ab_b, ab_a, optI_int, if_ft, if_tt, s_tup, vE_call, vE_callk, vE_prim, vE_isin, vE_meth, vE_lc, vE_gcon, toD_int, toD_strs, vE_chain, chnI_eq, chnK_eq, chnJ_t, chnJ_f, vE_tupG, tgJ_eq, tgK_eq, vE_qual, qlK_eq, vE_sumG, smK_eq, vE_lc2, l2K_eq, vEs_nil, vEs_cons, vA_one, vA_cons, vO_one, vO_cons, andK_t, andK_f, orK_t, orK_f, vT_nil, vT_cons, vI_seq, seqK_tup, seqK_rls, seqK_loc, seqL_ok, vI_enum, enK_eq, vI_zip, zpJ_eq, zpK_eq, vI_range1, rg1_int, vI_range2, rg2_int,
  xS_asg, asgK_nm, asgT_nm, asgT_tp2, asgT_tp3, asgK_tp2, asgK_tp3, xS_par, parK_2, parK_3, xS_setS, xS_aug, augV_ok, augK_add, augK_sub, xS_augS, agR_some, agD_eq, agX_eq, agI_eq, agO_eq, idxM_loc, augD_add, augD_sub, xS_expr, xS_ret, xS_retN, xS_ite, brS_t, brS_f, xS_wh, whB_t, whB_f, whK_n, whK_c, whK_b, whK_r, xS_fo, foT_some, foK_n, foK_c, foK_b, foK_r, xS_brk, xS_cont, xS_pass, xS_callx, flX_non, flX_tup, xS_tryx, xS_retx, rtX_non, rtX_tup, xSs_nil, xSs_cons, sqK_n, sqK_r, sqK_b, sqK_c,
  b_add, b_sub, b_mul, b_mulL, b_mulR, b_fdiv, b_mod, b_pow, b_addT, b_addL, addL_ok, b_repT, k_lt, k_le, k_gt, k_ge, k_eq, k_ne, k_isN, k_notN, k_in, k_nin, tr_str, q_int, q_bl, q_str, ofB_some, Option.map_some, tr_bl, tr_int, tr_non, tr_tup, tr_loc, trK_ok, td_bl, td_int, td_tup, i_tup, i_rls, i_loc, idxL_ok, okV_some, at0, at1, at2, at3, at_m1, tupK_ok, lstK_ok, negK_int, p_abs, p_int, p_intB, p_lenT, p_lenR, p_lenL, lenL_ok, p_sorted, p_sum, intsL_ok, allInt_map, srtI_ok, smI_ok, p_max, p_min, p_tupT, p_tupL, tupL_ok, p_lstT, p_lstL, lstL_ok, isD_ok, m_app, appL_ok, m_pop, popL_ok, m_rev, revL_ok, recv_ok, recvL_ok, set_loc, setL_ok, setI_ok, new_eq, Bool.not_true, Bool.not_false, if_true, eq_self, decide_true, decide_false,
  List.set_cons_zero, List.set_cons_succ, List.getElem?_cons_zero, List.getElem?_cons_succ, List.length_cons, List.length_nil, Option.some.injEq])
local macro_rules | `(tactic| walk_at "ev*") => `(tactic| simp (config := { maxSteps := 3000000 }) (disch := first | assumption | omega | exact ⟨by omega, by omega⟩ | exact ⟨⟨by omega, by omega⟩, ⟨by omega, by omega⟩⟩ | exact Nat.le_of_ble_eq_true rfl | decide) only [Int.reduceEq, wp_ok, bnd_ok, bnd_bad, binJ_eq, binK_eq, notK_eq, cmpJ_eq, cmpK_eq, idxJ_eq, idxK_eq, calJ_eq, clkJ_eq, clkK_eq, priJ_eq, isiJ_eq, metJ_eq, metI_t, metK_eq, lcJ_eq, lcK_eq, conJ_eq, conK_eq, andJ_eq, orJ_eq, rg2J_eq, nxtK_eq, setI1_eq, setI2_eq, setI3_eq, retK_eq,  vE_var, varK_ok, vE_int, vE_bl, vE_non, vE_str, vE_tup, vE_lst, vE_bin, vE_neg, vE_not, vE_and, vE_or, vE_cmp, vE_ite, brE_t, brE_f, vE_idx, vE_slc, ab_c, ab_v, ab_b, ab_a, optI_int, if_ft, if_tt, s_tup, vE_call, vE_callk, vE_prim, vE_isin, vE_meth, vE_lc, vE_gcon, toD_int, toD_strs, vE_chain, chnI_eq, chnK_eq, chnJ_t, chnJ_f, vE_tupG, tgJ_eq, tgK_eq, vE_qual, qlK_eq, vE_sumG, smK_eq, vE_lc2, l2K_eq, vEs_nil, vEs_cons, vA_one, vA_cons, vO_one, vO_cons, andK_t, andK_f, orK_t, orK_f, vT_nil, vT_cons, vI_seq, seqK_tup, seqK_rls, seqK_loc, seqL_ok, vI_enum, enK_eq, vI_zip, zpJ_eq, zpK_eq, vI_range1, rg1_int, vI_range2, rg2_int,
  xS_asg, asgK_nm, asgT_nm, asgT_tp2, asgT_tp3, asgK_tp2, asgK_tp3, xS_par, parK_2, parK_3, xS_setS, xS_aug, augV_ok, augK_add, augK_sub, xS_augS, agR_some, agD_eq, agX_eq, agI_eq, agO_eq, idxM_loc, augD_add, augD_sub, xS_expr, xS_ret, xS_retN, xS_ite, brS_t, brS_f, xS_wh, whB_t, whB_f, whK_n, whK_c, whK_b, whK_r, xS_fo, foT_some, foK_n, foK_c, foK_b, foK_r, xS_brk, xS_cont, xS_pass, xS_callx, flX_non, flX_tup, xS_tryx, xS_retx, rtX_non, rtX_tup, xSs_nil, xSs_cons, sqK_n, sqK_r, sqK_b, sqK_c,
  b_add, b_sub, b_mul, b_mulL, b_mulR, b_fdiv, b_mod, b_pow, b_addT, b_addL, addL_ok, b_repT, k_lt, k_le, k_gt, k_ge, k_eq, k_ne, k_isN, k_notN, k_in, k_nin, tr_str, q_int, q_bl, q_str, ofB_some, Option.map_some, tr_bl, tr_int, tr_non, tr_tup, tr_loc, trK_ok, td_bl, td_int, td_tup, i_tup, i_rls, i_loc, idxL_ok, okV_some, at0, at1, at2, at3, at_m1, tupK_ok, lstK_ok, negK_int, p_abs, p_int, p_intB, p_lenT, p_lenR, p_lenL, lenL_ok, p_sorted, p_sum, intsL_ok, allInt_map, srtI_ok, smI_ok, p_max, p_min, p_tupT, p_tupL, tupL_ok, p_lstT, p_lstL, lstL_ok, isD_ok, m_app, appL_ok, m_pop, popL_ok, m_rev, revL_ok, recv_ok, recvL_ok, set_loc, setL_ok, setI_ok, new_eq, Bool.not_true, Bool.not_false, if_true, eq_self, decide_true, decide_false,
  List.set_cons_zero, List.set_cons_succ, List.getElem?_cons_zero, List.getElem?_cons_succ, List.length_cons, List.length_nil, Option.some.injEq, *])
local macro_rules | `(tactic| walk_at "evs") => `(tactic| simp (config := { maxSteps := 3000000 }) (disch := first | assumption | omega | exact ⟨by omega, by omega⟩ | exact ⟨⟨by omega, by omega⟩, ⟨by omega, by omega⟩⟩ | exact Nat.le_of_ble_eq_true rfl | decide) only [Int.reduceEq, wp_ok, bnd_ok, bnd_bad, binJ_eq, binK_eq, notK_eq, cmpJ_eq, cmpK_eq, idxJ_eq, idxK_eq, calJ_eq, clkJ_eq, clkK_eq, priJ_eq, isiJ_eq, metJ_eq, metI_t, metK_eq, lcJ_eq, lcK_eq, conJ_eq, conK_eq, andJ_eq, orJ_eq, rg2J_eq, nxtK_eq, setI1_eq, setI2_eq, setI3_eq, retK_eq,  vE_var, varK_ok, vE_int, vE_bl, vE_non, vE_str, vE_tup, vE_lst, vE_bin, vE_neg, vE_not, vE_and, vE_or, vE_cmp, vE_ite, brE_t, brE_f, vE_idx, vE_slc, ab_c, ab_v, ab_b, ab_a, optI_int, if_ft, if_tt, s_tup, vE_call, vE_callk, vE_prim, vE_isin, vE_meth, vE_lc, vE_gcon, toD_int, toD_strs, vE_chain, chnI_eq, chnK_eq, chnJ_t, chnJ_f, vE_tupG, tgJ_eq, tgK_eq, vE_qual, qlK_eq, vE_sumG, smK_eq, vE_lc2, l2K_eq, vEs_nil, vEs_cons, vA_one, vA_cons, vO_one, vO_cons, andK_t, andK_f, orK_t, orK_f, vT_nil, vT_cons, vI_seq, seqK_tup, seqK_rls, seqK_loc, seqL_ok, vI_enum, enK_eq, vI_zip, zpJ_eq, zpK_eq, vI_range1, rg1_int, vI_range2, rg2_int,
  xS_asg, asgK_nm, asgT_nm, asgT_tp2, asgT_tp3, asgK_tp2, asgK_tp3, xS_par, parK_2, parK_3, xS_setS, xS_aug, augV_ok, augK_add, augK_sub, xS_augS, agR_some, agD_eq, agX_eq, agI_eq, agO_eq, idxM_loc, augD_add, augD_sub, xS_expr, xS_ret, xS_retN, xS_ite, brS_t, brS_f, xS_wh, whB_t, whB_f, whK_n, whK_c, whK_b, whK_r, xS_fo, foT_some, foK_n, foK_c, foK_b, foK_r, xS_brk, xS_cont, xS_pass, xS_callx, flX_non, flX_tup, xS_tryx, xS_retx, rtX_non, rtX_tup, xSs_nil, xSs_cons, sqK_n, sqK_r, sqK_b, sqK_c,
  b_add, b_sub, b_mul, b_mulL, b_mulR, b_fdiv, b_mod, b_pow, b_addT, b_addL, addL_ok, b_repT, k_lt, k_le, k_gt, k_ge, k_eq, k_ne, k_isN, k_notN, k_in, k_nin, tr_str, q_int, q_bl, q_str, ofB_some, Option.map_some, tr_bl, tr_int, tr_non, tr_tup, tr_loc, trK_ok, td_bl, td_int, td_tup, i_tup, i_rls, i_loc, idxL_ok, okV_some, at0, at1, at2, at3, at_m1, tupK_ok, lstK_ok, negK_int, p_abs, p_int, p_intB, p_lenT, p_lenR, p_lenL, lenL_ok, p_sorted, p_sum, intsL_ok, allInt_map, srtI_ok, smI_ok, p_max, p_min, p_tupT, p_tupL, tupL_ok, p_lstT, p_lstL, lstL_ok, isD_ok, m_app, appL_ok, m_pop, popL_ok, m_rev, revL_ok, recv_ok, recvL_ok, set_loc, setL_ok, setI_ok, new_eq, Bool.not_true, Bool.not_false, if_true, eq_self, decide_true, decide_false,
  List.set_cons_zero, List.set_cons_succ, List.getElem?_cons_zero, List.getElem?_cons_succ, List.length_cons, List.length_nil, Option.some.injEq, List.cons_append, List.nil_append, List.append_assoc, Nat.reduceAdd, st_get, st_get0, st_set, st_set0, List.length_append, Nat.add_zero, Nat.zero_add, *])

local macro_rules | `(tactic| walk_at "dv") => `(tactic| repeat with_reducible first | refine wp_bnd ?_ | refine wp_tru ?_ | refine wp_optI ?_)
structure CvI (l g c : Nat) (RR : D) (S : Store) (m : Nat) (e : SX.Env) (S' : Store) : Prop where
  ex : ∃ (j : Nat) (fs : List D) (o3 o4 o5 o6 o7 o8 o9 : Option D), e = [some (.loc l), some RR, some (.loc j), o3, o4, o5, o6, o7, o8, o9, none, none] ∧ S'[j]? = some (.lst fs) ∧ fs.length = 16 + 3 * m
  le : ∀ j : Nat, e[2]? = some (some (.loc j)) → S.length ≤ j
  he : Ex l g c S S'
theorem cv_rest (n : Nat) {l g c : Nat} {S : Store} (m : Nat) (hm : m < 7) (j : Nat) (fs : List D) (hj : S.length ≤ j) (hfl : fs.length = 16 + 3 * m) (RR C : D) (nn a b : Int) (zs ws cs : List D) (hC : C = .tup cs) (hcl : cs.length ≤ 10) (hzl : zs.length ≤ 10) (hwl : ws.length ≤ 10) (hmn : CMulW 2 nn ∨ CMul 2 nn)
    (i6 : ∀ S, idxD RR (.int (2 * nn)) S = .ok (.int a) S) (i7 : ∀ S, idxD RR (.int (2 * nn + 1)) S = .ok (.int b) S) (cn : ∀ S, idxD C (.int nn) S = .ok (.tup zs) S) (co : ∀ S, idxD C (.int (1 - nn)) S = .ok (.tup ws) S)
    (S0 : Store) (o3 o6 o7 o8 o9 : Option D) (g0 : S0[j]? = some (.lst fs)) (hE : Ex l g c S S0) :
    Wp (exSs (callN P (n + 7)) (.cons (.par [6, 7] (.cons (.idx (.var 1) (.bin .mul (.cint 2) (.var 5))) (.cons (.idx (.var 1) (.bin .add (.bin .mul (.cint 2) (.var 5)) (.cint 1))) .nil))) (.cons (.asg (.nm 8) (.call 7 (.cons (.var 0) (.cons (.lst (.cons (.bin .sub (.var 6) (.cint 1)) (.cons (.bin .add (.var 7) (.cint 1)) (.cons (.bin .sub (.var 6) (.cint 1)) (.cons (.bin .add (.var 7) (.cint 1)) (.cons (.cbl true) (.cons (.cbl false) (.cons (.cstr (PySem.Str.ofString "")) (.cons (.cstr (PySem.Str.ofString "1")) (.cons (.tup .nil) (.cons (.tup (.cons (.var 6) .nil)) (.cons (.neg (.cint 1)) (.cons (.bin .pow (.cint 10) (.cint 39)) .nil))))))))))))) .nil)))) (.cons (.asg (.nm 9) (.call 6 (.cons (.var 0) (.cons (.bin .add (.prim .len (.cons (.idx (.var 4) (.var 5)) .nil)) (.cint 1)) .nil)))) (.cons (.asg (.nm 2) (.bin .add (.var 2) (.lst (.cons (.var 4) (.cons (.call 14 (.cons (.var 4) (.cons (.var 5) (.cons (.bin .add (.bin .add (.slc (.idx (.var 4) (.var 5)) (.absent) (.var 9)) (.tup (.cons (.var 8) .nil))) (.slc (.idx (.var 4) (.var 5)) (.var 9) (.absent))) .nil)))) .nil))))) (.cons (.expr (.meth .append (.var 2) (.cons (.call 14 (.cons (.idx (.var 2) (.neg (.cint 1))) (.cons (.bin .sub (.cint 1) (.var 5)) (.cons (.bin .add (.idx (.var 4) (.bin .sub (.cint 1) (.var 5))) (.tup (.cons (.call 7 (.cons (.var 0) (.cons (.lst (.cons (.cint 0) (.cons (.cbl true) (.cons (.cstr (PySem.Str.ofString "x")) .nil)))) .nil))) .nil))) .nil)))) .nil))) .nil))))) [some (.loc l), some RR, some (.loc j), o3, some C, some (.int nn), o6, o7, o8, o9, none, none] S0) fun r S' => r.1 = .next ∧ CvI l g c RR S (m + 1) r.2 S' := by
  have L0 : LINE = 16777216 := rfl
  have wl := hE.here hj
  have x1 : ∀ x S, callN P (n + 7) 14 [C, .int nn, x] S = .ok (.tup (exF cs nn x)) S := fun x S => by rw [hC]; exact e_exch (n + 6) cs nn x S (by omega)
  refine wp_seq (fun e S1 => e = [some (.loc l), some RR, some (.loc j), o3, some C, some (.int nn), some (.int a), some (.int b), o8, o9, none, none] ∧ S1[j]? = some (.lst fs) ∧ Ex l g c S S1) ?_ ?_
  · clear x1 cn co hC
    walk_at "ev*"
    exact ⟨trivial, by first | rfl | trivial | simp, by first | exact g0 | trivial, by first | exact hE | trivial⟩
  rintro e S1 ⟨rfl, g1, hE1⟩
  clear g0 hE i6 i7
  refine wp_seq (fun e S2 => ∃ x, e = [some (.loc l), some RR, some (.loc j), o3, some C, some (.int nn), some (.int a), some (.int b), some x, o9, none, none] ∧ S2[j]? = some (.lst fs) ∧ Ex l g c S S2) ?_ ?_
  · have cp : CPow 10 39 := by first | decide | exact ⟨by decide, by decide⟩ | (unfold CPow; decide)
    have tp : ∀ S, tupK [D.int a] S = .ok (.tup [.int a]) S := fun S => tupK_ok S (by rw [L0]; simp)
    clear x1 cn co hC
    walk_at "ev*"
    walk_at "dv"
    refine wp_pickL (N := n + 7) (c := c) pk7 dr6 (by omega) (hE1.bg.app _) (ds := [.int (a - 1), .int (b + 1), .int (a - 1), .int (b + 1), .bl true, .bl false, .str (PySem.Str.ofString ""), .str (PySem.Str.ofString "1"), .tup [], .tup [.int a], .int (-1), .int ((10 : Int) ^ (39 : Int).toNat)]) (at_new _ _) (nlg hE1.bg (Nat.le_refl _)).1 (nlg hE1.bg (Nat.le_refl _)).2 (by simp) (by simp) fun d S3 hd hE3 => ?_
    clear hd
    have q1 := hE3.get (get_app g1 _) wl.1 wl.2
    have q2 := (hE1.new _).trans hE3
    clear hE1 hE3 g1 cp
    walk_at "ev"
    exact ⟨trivial, d, by first | rfl | trivial | simp, q1, q2⟩
  rintro e S2 ⟨x, rfl, g2, hE2⟩
  clear g1 hE1
  refine wp_seq (fun e S3 => ∃ k : Int, e = [some (.loc l), some RR, some (.loc j), o3, some C, some (.int nn), some (.int a), some (.int b), some x, some (.int k), none, none] ∧ S3[j]? = some (.lst fs) ∧ Ex l g c S S3) ?_ ?_
  · have l0 : ∀ S, primD .len [.tup zs] S = .ok (.int zs.length) S := fun S => rfl
    clear x1 co hC
    walk_at "ev*"
    walk_at "dv"
    refine wp_drawE (N := n + 7) (m := zs.length + 1) dr6 (by omega) hE2.bg (by omega) (by omega) fun r S3 r0 r1 hE3 => ?_
    have q1 := hE3.get g2 wl.1 wl.2
    have q2 := hE2.trans hE3
    clear hE2 hE3 g2 l0
    walk_at "ev"
    exact ⟨trivial, r, by first | rfl | trivial | simp, q1, q2⟩
  rintro e S3 ⟨k, rfl, g3, hE3⟩
  clear g2 hE2
  refine wp_seq (fun e S4 => ∃ (j' : Nat) (hs zs' : List D), e = [some (.loc l), some RR, some (.loc j'), o3, some C, some (.int nn), some (.int a), some (.int b), some x, some (.int k), none, none] ∧ S4[j']? = some (.lst (hs ++ [.tup zs'])) ∧ hs.length = 16 + 3 * m + 1 ∧ zs'.length ≤ 100 ∧ S.length ≤ j' ∧ Ex l g c S S4) ?_ ?_
  · have c1 := cut_len zs none (some k)
    have c2 := cut_len zs (some k) none
    have b1 : ∀ S, binD .add (.tup (SX.cutD zs none (some k))) (.tup [x]) S = .ok (.tup (SX.cutD zs none (some k) ++ [x])) S := fun S => b_addT S (by simp only [List.length_cons, List.length_nil]; omega)
    have b2 : ∀ S, binD .add (.tup (SX.cutD zs none (some k) ++ [x])) (.tup (SX.cutD zs (some k) none)) S = .ok (.tup (SX.cutD zs none (some k) ++ [x] ++ SX.cutD zs (some k) none)) S := fun S => b_addT S (by simp only [List.length_append, List.length_cons, List.length_nil]; omega)
    clear c1 c2
    generalize SX.cutD zs none (some k) ++ [x] ++ SX.cutD zs (some k) none = CC at *
    have g4 := get_app g3
    have an := at_new
    have hb : fs.length + [C, .tup (exF cs nn (.tup CC))].length ≤ LINE := by rw [L0]; simp only [List.length_cons, List.length_nil]; omega
    have hq := ex_len cs nn (.tup CC)
    clear co g3
    revert hfl hcl hzl hwl hq
    clear hC
    walk_at "ev*"
    intro hfl hcl hzl hwl hq
    refine ⟨trivial, (S3 ++ [SO.lst [C, .tup (exF cs nn (.tup CC))]]).length, fs ++ [C], exF cs nn (.tup CC), by first | rfl | trivial | simp, ?_, ?_, ?_, ?_, ?_⟩
    · simp
    · rw [List.length_append]; simp; omega
    · omega
    · have := hE3.len; simp; omega
    · exact (hE3.new _).new _
  rintro e S4 ⟨j', hs, zs', rfl, g4, hhl, hzl', hj', hE4⟩
  have wl' := hE4.here hj'
  clear g3 hE3 x1 cn hC
  refine wp_mono (Q := fun r S' => ∃ (us : List D), r = (.next, [some (.loc l), some RR, some (.loc j'), o3, some C, some (.int nn), some (.int a), some (.int b), some x, some (.int k), none, none]) ∧ S'[j']? = some (.lst us) ∧ us.length = 16 + 3 * (m + 1) ∧ Ex l g c S S') ?_ ?_
  · revert hfl hcl hzl hwl hhl hzl'
    walk_at "ev*"
    intro hfl hcl hzl hwl hhl hzl'
    walk_at "dv"
    refine wp_pickL (N := n + 7) (c := c) pk7 dr6 (by omega) (hE4.bg.app _) (ds := [.int 0, .bl true, .str (PySem.Str.ofString "x")]) (at_new _ _) (nlg hE4.bg (Nat.le_refl _)).1 (nlg hE4.bg (Nat.le_refl _)).2 (by simp) (by simp) fun d S5 hd hE5 => ?_
    clear hd
    have g5 := hE5.get (get_app g4 _) wl'.1 wl'.2
    have hE6 := (hE4.new _).trans hE5
    have b3 : ∀ S, binD .add (.tup ws) (.tup [d]) S = .ok (.tup (ws ++ [d])) S := fun S => b_addT S (by rw [L0]; simp only [List.length_cons, List.length_nil]; omega)
    have x2 : ∀ x S, callN P (n + 7) 14 [.tup zs', .int (1 - nn), x] S = .ok (.tup (exF zs' (1 - nn) x)) S := fun x S => e_exch (n + 6) zs' (1 - nn) x S (by omega)
    have hb : (hs ++ [D.tup zs']).length < LINE := by rw [L0, List.length_append]; simp only [List.length_cons, List.length_nil]; omega
    have lt := get_lt g5
    clear hE4 hE5 g4
    revert hfl hcl hzl hwl hhl hzl'
    walk_at "ev*"
    intro hfl hcl hzl hwl hhl hzl'
    refine ⟨hs ++ [D.tup zs'] ++ [.tup (exF zs' (1 - nn) (.tup (ws ++ [d])))], by first | rfl | trivial | simp, ?_, ?_, ?_⟩
    · rw [List.getElem?_set_self lt]
    · simp only [List.length_append, List.length_cons, List.length_nil]; omega
    · exact hE6.set hj' _
  · rintro _ S' ⟨us, rfl, g5, hul, hE5⟩
    exact ⟨rfl, ⟨j', us, _, _, _, _, _, _, _, rfl, g5, hul⟩, fun j h => by cases h; exact hj', hE5⟩
def cvB : Ss := .cons (.asg (.nm 4) (.tup (.cons (.call 17 (.cons (.var 0) (.cons (.idx (.var 1) (.cint 0)) (.cons (.idx (.var 1) (.cint 1)) (.cons (.call 7 (.cons (.var 0) (.cons (.lst (.cons (.cint 0) (.cons (.cint 1) (.cons (.cint 3) (.cons (.cint 9) .nil))))) .nil))) .nil))))) (.cons (.call 17 (.cons (.var 0) (.cons (.idx (.var 1) (.cint 2)) (.cons (.idx (.var 1) (.cint 3)) (.cons (.call 7 (.cons (.var 0) (.cons (.lst (.cons (.cint 0) (.cons (.cint 1) (.cons (.cint 3) (.cons (.cint 9) .nil))))) .nil))) .nil))))) .nil)))) (.cons (.asg (.nm 5) (.call 6 (.cons (.var 0) (.cons (.cint 2) .nil)))) (.cons (.par [6, 7] (.cons (.idx (.var 1) (.bin .mul (.cint 2) (.var 5))) (.cons (.idx (.var 1) (.bin .add (.bin .mul (.cint 2) (.var 5)) (.cint 1))) .nil))) (.cons (.asg (.nm 8) (.call 7 (.cons (.var 0) (.cons (.lst (.cons (.bin .sub (.var 6) (.cint 1)) (.cons (.bin .add (.var 7) (.cint 1)) (.cons (.bin .sub (.var 6) (.cint 1)) (.cons (.bin .add (.var 7) (.cint 1)) (.cons (.cbl true) (.cons (.cbl false) (.cons (.cstr (PySem.Str.ofString "")) (.cons (.cstr (PySem.Str.ofString "1")) (.cons (.tup .nil) (.cons (.tup (.cons (.var 6) .nil)) (.cons (.neg (.cint 1)) (.cons (.bin .pow (.cint 10) (.cint 39)) .nil))))))))))))) .nil)))) (.cons (.asg (.nm 9) (.call 6 (.cons (.var 0) (.cons (.bin .add (.prim .len (.cons (.idx (.var 4) (.var 5)) .nil)) (.cint 1)) .nil)))) (.cons (.asg (.nm 2) (.bin .add (.var 2) (.lst (.cons (.var 4) (.cons (.call 14 (.cons (.var 4) (.cons (.var 5) (.cons (.bin .add (.bin .add (.slc (.idx (.var 4) (.var 5)) (.absent) (.var 9)) (.tup (.cons (.var 8) .nil))) (.slc (.idx (.var 4) (.var 5)) (.var 9) (.absent))) .nil)))) .nil))))) (.cons (.expr (.meth .append (.var 2) (.cons (.call 14 (.cons (.idx (.var 2) (.neg (.cint 1))) (.cons (.bin .sub (.cint 1) (.var 5)) (.cons (.bin .add (.idx (.var 4) (.bin .sub (.cint 1) (.var 5))) (.tup (.cons (.call 7 (.cons (.var 0) (.cons (.lst (.cons (.cint 0) (.cons (.cbl true) (.cons (.cstr (PySem.Str.ofString "x")) .nil)))) .nil))) .nil))) .nil)))) .nil))) .nil))))))
theorem cv_turn (n : Nat) {l g c : Nat} {S : Store} (lo hi low high : Int) (h1 : 0 ≤ hi - lo) (h2 : hi - lo < 1000) (h3 : 0 ≤ high - low) (h4 : high - low < 1000) (m : Nat) (hm : m < 7) (e : SX.Env) (S0 : Store) (hI : CvI l g c (.tup [.int lo, .int hi, .int low, .int high]) S m e S0) (o : Int) :
    ∃ e1, asgT (.nm 3) (.int o) S0 e = some e1 ∧ Wp (exSs (callN P (n + 7)) cvB e1 S0) fun r S' => r.1 = .next ∧ CvI l g c (.tup [.int lo, .int hi, .int low, .int high]) S (m + 1) r.2 S' := by
  obtain ⟨⟨j, fs, o3, o4, o5, o6, o7, o8, o9, rfl, g0, hfl⟩, hj, hE⟩ := hI
  have hj2 := hj j rfl
  clear hj
  refine ⟨[some (.loc l), some (.tup [.int lo, .int hi, .int low, .int high]), some (.loc j), some (.int o), o4, o5, o6, o7, o8, o9, none, none], rfl, ?_⟩
  have L0 : LINE = 16777216 := rfl
  have wl := hE.here hj2
  have r0 : ∀ S, idxD (.tup [.int lo, .int hi, .int low, .int high]) (.int 0) S = .ok (.int lo) S := fun S => rfl
  have r1 : ∀ S, idxD (.tup [.int lo, .int hi, .int low, .int high]) (.int 1) S = .ok (.int hi) S := fun S => rfl
  have r2 : ∀ S, idxD (.tup [.int lo, .int hi, .int low, .int high]) (.int 2) S = .ok (.int low) S := fun S => rfl
  have r3 : ∀ S, idxD (.tup [.int lo, .int hi, .int low, .int high]) (.int 3) S = .ok (.int high) S := fun S => rfl
  have k0 : ∀ S, idxD (.tup [.int lo, .int hi, .int low, .int high]) (.int (2 * 0)) S = .ok (.int lo) S := fun S => rfl
  have k1 : ∀ S, idxD (.tup [.int lo, .int hi, .int low, .int high]) (.int (2 * 0 + 1)) S = .ok (.int hi) S := fun S => rfl
  have k2 : ∀ S, idxD (.tup [.int lo, .int hi, .int low, .int high]) (.int (2 * 1)) S = .ok (.int low) S := fun S => rfl
  have k3 : ∀ S, idxD (.tup [.int lo, .int hi, .int low, .int high]) (.int (2 * 1 + 1)) S = .ok (.int high) S := fun S => rfl
  generalize D.tup [.int lo, .int hi, .int low, .int high] = RR at *
  unfold cvB
  refine wp_seq (fun e S1 => ∃ xs ys, e = [some (.loc l), some RR, some (.loc j), some (.int o), some (.tup [.tup xs, .tup ys]), o5, o6, o7, o8, o9, none, none] ∧ xs.length ≤ 10 ∧ ys.length ≤ 10 ∧ S1[j]? = some (.lst fs) ∧ Ex l g c S S1) ?_ ?_
  · clear k0 k1 k2 k3
    try walk_at "ev*"
    walk_at "dv"
    refine wp_pickL (N := n + 7) (c := c) pk7 dr6 (by omega) (hE.bg.app _) (ds := [.int 0, .int 1, .int 3, .int 9]) (at_new _ _) (nlg hE.bg (Nat.le_refl _)).1 (nlg hE.bg (Nat.le_refl _)).2 (by simp) (by simp) fun d S1 hd hE1 => ?_
    obtain ⟨i, rfl, hi⟩ := int_of (xs := [0, 1, 3, 9]) hd
    have ib : 0 ≤ i ∧ i ≤ 9 := by simp at hi; omega
    have q1 := hE1.get (get_app g0 _) wl.1 wl.2
    have q2 := (hE.new _).trans hE1
    clear hd hi hE1 hE g0
    try walk_at "ev*"
    walk_at "dv"
    refine wp_fn (Post := fun d => ∃ ds, d = .tup ds ∧ (ds.length : Int) = i ∧ ∀ x ∈ ds, Dk 0 x) (e_fatesof (n + 3) q2.bg lo hi i h1 (by omega) ib.1 (by omega)) fun d S2 hd hE2 => ?_
    obtain ⟨xs, rfl, hxl, _⟩ := hd
    have q3 := hE2.get q1 wl.1 wl.2
    have q4 := q2.trans hE2
    clear hE2 q1 q2
    try walk_at "ev*"
    walk_at "dv"
    refine wp_pickL (N := n + 7) (c := c) pk7 dr6 (by omega) (q4.bg.app _) (ds := [.int 0, .int 1, .int 3, .int 9]) (at_new _ _) (nlg q4.bg (Nat.le_refl _)).1 (nlg q4.bg (Nat.le_refl _)).2 (by simp) (by simp) fun d S3 hd hE3 => ?_
    obtain ⟨i2, rfl, hi2⟩ := int_of (xs := [0, 1, 3, 9]) hd
    have ib2 : 0 ≤ i2 ∧ i2 ≤ 9 := by simp at hi2; omega
    have q5 := hE3.get (get_app q3 _) wl.1 wl.2
    have q6 := (q4.new _).trans hE3
    clear hd hi2 hE3 q3 q4
    try walk_at "ev*"
    walk_at "dv"
    refine wp_fn (Post := fun d => ∃ ds, d = .tup ds ∧ (ds.length : Int) = i2 ∧ ∀ x ∈ ds, Dk 0 x) (e_fatesof (n + 3) q6.bg low high i2 h3 (by omega) ib2.1 (by omega)) fun d S4 hd hE4 => ?_
    obtain ⟨ys, rfl, hyl, _⟩ := hd
    have q7 := hE4.get q5 wl.1 wl.2
    have q8 := q6.trans hE4
    clear hE4 q5 q6 r0 r1 r2 r3
    try walk_at "ev"
    exact ⟨trivial, xs, ys, by first | rfl | trivial | simp, by omega, by omega, q7, q8⟩
  rintro e S1 ⟨xs, ys, rfl, hxl, hyl, g1, hE1⟩
  clear g0 hE
  refine wp_seq (fun e S2 => ∃ nn : Int, e = [some (.loc l), some RR, some (.loc j), some (.int o), some (.tup [.tup xs, .tup ys]), some (.int nn), o6, o7, o8, o9, none, none] ∧ (nn = 0 ∨ nn = 1) ∧ S2[j]? = some (.lst fs) ∧ Ex l g c S S2) ?_ ?_
  · clear k0 k1 k2 k3 r0 r1 r2 r3
    walk_at "ev*"
    refine wp_bnd ?_
    refine wp_drawE (N := n + 7) (m := 2) dr6 (by omega) hE1.bg (by omega) (by omega) fun r S2 r0 r1 hE2 => ?_
    have q1 := hE2.get g1 wl.1 wl.2
    have q2 := hE1.trans hE2
    clear hE1 hE2 g1
    try walk_at "ev"
    exact ⟨trivial, r, by first | rfl | trivial | simp, by omega, q1, q2⟩
  rintro e S2 ⟨nn, rfl, hn, g2, hE2⟩
  rcases hn with rfl | rfl
  · exact cv_rest n m hm j fs hj2 hfl RR _ 0 lo hi xs ys [.tup xs, .tup ys] rfl (by simp) hxl hyl (cmul_small (by decide)) k0 k1 (fun S => rfl) (fun S => rfl) S2 _ _ _ _ _ g2 hE2
  · exact cv_rest n m hm j fs hj2 hfl RR _ 1 low high ys xs [.tup xs, .tup ys] rfl (by simp) hyl hxl (cmul_small (by decide)) k2 k3 (fun S => rfl) (fun S => rfl) S2 _ _ _ _ _ g2 hE2
theorem e_coursevalues (n : Nat) {l g c : Nat} {S : Store} (hB : Bg l g c S) (lo hi low high : Int) (h1 : 0 ≤ hi - lo) (h2 : hi - lo < 1000) (h3 : 0 ≤ high - low) (h4 : high - low < 1000) : ∃ (j : Nat) (fs : List D) (S' : Store), callN P (n + 8) 18 [.loc l, .tup [.int lo, .int hi, .int low, .int high]] S = .ok (.loc j) S' ∧ S'[j]? = some (.lst fs) ∧ fs.length ≤ 200 ∧ S.length ≤ j ∧ Ex l g c S S' := by
  rw [callN_eq (n + 7) _ _ (fd := ⟨2, 12, b__law_course_values, false⟩) rfl rfl (Nat.le_of_ble_eq_true rfl)]
  suffices H : Wp (exSs (callN P (n + 7)) b__law_course_values [some (.loc l), some (.tup [.int lo, .int hi, .int low, .int high]), none, none, none, none, none, none, none, none, none, none] S) fun r S' => ∃ (j : Nat) (fs : List D), r.1 = .ret (.loc j) ∧ S'[j]? = some (.lst fs) ∧ fs.length ≤ 200 ∧ S.length ≤ j ∧ Ex l g c S S' by
    obtain ⟨⟨fl, e⟩, S1, h, j, fs, h3, g1, h5, h6, hE⟩ := H
    obtain rfl : fl = .ret (.loc j) := h3
    exact ⟨j, fs, S1, end_any h rfl, g1, h5, h6, hE⟩
  have L0 : LINE = 16777216 := rfl
  unfold b__law_course_values
  refine wp_seq (CvI l g c (.tup [.int lo, .int hi, .int low, .int high]) S 0) ?_ ?_
  · generalize D.tup [.int lo, .int hi, .int low, .int high] = RR at *
    walk_at "ev"
    exact ⟨trivial, ⟨S.length, _, _, _, _, _, _, _, _, rfl, at_new _ _, rfl⟩, fun j h => by cases h; exact Nat.le_refl _, (Ex.refl hB).new _⟩
  intro e S1 hI1
  refine wp_seq (fun e S2 => CvI l g c (.tup [.int lo, .int hi, .int low, .int high]) S 7 e S2) ?_ ?_
  · have r62 : R62 7 := ⟨by decide, by decide⟩
    rw [xS_fo, show evIt (callN P (n + 7)) (.range1 (.cint 7)) e S1 = .ok ⟨rngK 0 7, none⟩ S1 from by clear hI1; walk_at "ev*", bnd_ok]
    obtain ⟨e2, s2, hf, hI⟩ := fo_cnt (callN P (n + 7)) (.nm 3) cvB ⟨rngK 0 7, none⟩ (CvI l g c (.tup [.int lo, .int hi, .int low, .int high]) S) (fun _ _ _ _ => here_none _ _) 7 (rngK 0 7) 0 (by rw [rng_len]; decide) (fun d hd k e s hk hI => by
      obtain ⟨o, rfl, _, _⟩ := rng_mem hd
      exact cv_turn n lo hi low high h1 h2 h3 h4 k hk e s hI o) e S1 hI1
    exact ⟨(.next, e2), s2, hf, rfl, hI⟩
  rintro e S2 ⟨⟨j, fs, o3, o4, o5, o6, o7, o8, o9, rfl, g2, hfl⟩, hj, hE2⟩
  have hj2 := hj j rfl
  clear hj
  have r0 : ∀ S, idxD (.tup [.int lo, .int hi, .int low, .int high]) (.int 0) S = .ok (.int lo) S := fun S => rfl
  have r2 : ∀ S, idxD (.tup [.int lo, .int hi, .int low, .int high]) (.int 2) S = .ok (.int low) S := fun S => rfl
  have m1 : ∀ i S, binD .mul (.tup [.int i]) (.int 400) S = .ok (.tup (List.replicate 400 [D.int i]).flatten) S := fun i S => b_repT S ⟨by simp, by decide, by decide, by simp⟩
  have ml : ∀ i, (List.replicate 400 [D.int i]).flatten.length = 400 := fun i => by rw [rep_flat, List.length_replicate]
  generalize D.tup [.int lo, .int hi, .int low, .int high] = RR at *
  have s1 := ml lo
  have s2 := ml low
  have m2 := m1 lo
  have m3 := m1 low
  clear m1 ml
  generalize (List.replicate 400 [D.int lo]).flatten = R1 at *
  generalize (List.replicate 400 [D.int low]).flatten = R2 at *
  have a1 : ∀ S, binD .add (.tup R1) (.tup [.non]) S = .ok (.tup (R1 ++ [.non])) S := fun S => b_addT S (by rw [L0]; simp only [List.length_cons, List.length_nil]; omega)
  have a2 : ∀ S, binD .add (.tup R2) (.tup [.non]) S = .ok (.tup (R2 ++ [.non])) S := fun S => b_addT S (by rw [L0]; simp only [List.length_cons, List.length_nil]; omega)
  have a3 : ∀ S, binD .add (.tup R2) (.tup [.int 0]) S = .ok (.tup (R2 ++ [.int 0])) S := fun S => b_addT S (by rw [L0]; simp only [List.length_cons, List.length_nil]; omega)
  have g6 := get_app g2
  have an := at_new
  have hb : fs.length + [D.tup [.tup R1, .tup R2], .tup [.tup (R1 ++ [.non]), .tup []], .tup [.tup [], .tup (R2 ++ [.non])], .tup [.tup (R1 ++ [.non]), .tup (R2 ++ [.int 0])], .tup [.tup R2, .tup R1]].length ≤ LINE := by rw [hfl, L0]; simp
  revert hfl
  clear g2 s1 s2
  walk_at "ev*"
  intro hfl
  refine ⟨_, fs ++ [D.tup [.tup R1, .tup R2], .tup [.tup (R1 ++ [.non]), .tup []], .tup [.tup [], .tup (R2 ++ [.non])], .tup [.tup (R1 ++ [.non]), .tup (R2 ++ [.int 0])], .tup [.tup R2, .tup R1]], rfl, ?_, ?_, ?_, ?_⟩
  · simp
  · rw [List.length_append, hfl]; simp
  · have := hE2.len; simp; omega
  · exact (hE2.new _).new _
end
end LW
namespace LW
open PySem PySem.Spec PyProof.Rows L2 SX
noncomputable section
open Classical
local macro_rules | `(tactic| walk_at "ev") => `(tactic| simp (config := { maxSteps := 3000000 }) (disch := first | assumption | omega | exact ⟨by omega, by omega⟩ | exact ⟨⟨by omega, by omega⟩, ⟨by omega, by omega⟩⟩ | exact Nat.le_of_ble_eq_true rfl | decide) only [Int.reduceEq, wp_ok, bnd_ok, bnd_bad, binJ_eq, binK_eq, notK_eq, cmpJ_eq, cmpK_eq, idxJ_eq, idxK_eq, calJ_eq, clkJ_eq, clkK_eq, priJ_eq, isiJ_eq, metJ_eq, metI_t, metK_eq, lcJ_eq, lcK_eq, conJ_eq, conK_eq, andJ_eq, orJ_eq, rg2J_eq, nxtK_eq, setI1_eq, setI2_eq, setI3_eq, retK_eq,  vE_var, varK_ok, vE_int, vE_bl, vE_non, vE_str, vE_tup, vE_lst, vE_bin, vE_neg, vE_not, vE_and, vE_or, vE_cmp, vE_ite, brE_t, brE_f, vE_idx, vE_slc, ab_c, ab_v, ab_b, ab_a, optI_int, if_ft, if_tt, s_tup, vE_call, vE_callk, vE_prim, vE_isin, vE_meth, vE_lc, vE_gcon, toD_int, toD_strs, vE_chain, chnI_eq, chnK_eq, chnJ_t, chnJ_f, vE_tupG, tgJ_eq, tgK_eq, vE_qual, qlK_eq, vE_sumG, smK_eq, vE_lc2, l2K_eq, vEs_nil, vEs_cons, vA_one, vA_cons, vO_one, vO_cons, andK_t, andK_f, orK_t, orK_f, vT_nil, vT_cons, vI_seq, seqK_tup, seqK_rls, seqK_loc, seqL_ok, vI_enum, enK_eq, vI_zip, zpJ_eq, zpK_eq, vI_range1, rg1_int, vI_range2, rg2_int,
  xS_asg, asgK_nm, asgT_nm, asgT_tp2, asgT_tp3, asgK_tp2, asgK_tp3, xS_par, parK_2, parK_3, xS_setS, xS_aug, augV_ok, augK_add, augK_sub, xS_augS, agR_some, agD_eq, agX_eq, agI_eq, agO_eq, idxM_loc, augD_add, augD_sub, xS_expr, xS_ret, xS_retN, xS_ite, brS_t, brS_f, xS_wh, whB_t, whB_f, whK_n, whK_c, whK_b, whK_r, xS_fo, foT_some, foK_n, foK_c, foK_b, foK_r, xS_brk, xS_cont, xS_pass, xS_callx, flX_non, flX_tup, xS_tryx, xS_retx, rtX_non, rtX_tup, xSs_nil, xSs_cons, sqK_n, sqK_r, sqK_b, sqK_c,
  b_add, b_sub, b_mul, b_mulL, b_mulR, b_fdiv, b_mod, b_pow, b_addT, b_addL, addL_ok, b_repT, k_lt, k_le, k_gt, k_ge, k_eq, k_ne, k_isN, k_notN, k_in, k_nin, tr_str, q_int, q_bl, q_str, ofB_some, Option.map_some, tr_bl, tr_int, tr_non, tr_tup, tr_loc, trK_ok, td_bl, td_int, td_tup, i_tup, i_rls, i_loc, idxL_ok, okV_some, at0, at1, at2, at3, at_m1, tupK_ok, lstK_ok, negK_int, p_abs, p_int, p_intB, p_lenT, p_lenR, p_lenL, lenL_ok, p_sorted, p_sum, intsL_ok, allInt_map, srtI_ok, smI_ok, p_max, p_min, p_tupT, p_tupL, tupL_ok, p_lstT, p_lstL, lstL_ok, isD_ok, m_app, appL_ok, m_pop, popL_ok, m_rev, revL_ok, recv_ok, recvL_ok, set_loc, setL_ok, setI_ok, new_eq, Bool.not_true, Bool.not_false, if_true, eq_self, decide_true, decide_false,
  List.set_cons_zero, List.set_cons_succ, List.getElem?_cons_zero, List.getElem?_cons_succ, List.length_cons, List.length_nil, Option.some.injEq])
local macro_rules | `(tactic| walk_at "ev*") => `(tactic| simp (config := { maxSteps := 3000000 }) (disch := first | assumption | omega | exact ⟨by omega, by omega⟩ | exact ⟨⟨by omega, by omega⟩, ⟨by omega, by omega⟩⟩ | exact Nat.le_of_ble_eq_true rfl | decide) only [Int.reduceEq, wp_ok, bnd_ok, bnd_bad, binJ_eq, binK_eq, notK_eq, cmpJ_eq, cmpK_eq, idxJ_eq, idxK_eq, calJ_eq, clkJ_eq, clkK_eq, priJ_eq, isiJ_eq, metJ_eq, metI_t, metK_eq, lcJ_eq, lcK_eq, conJ_eq, conK_eq, andJ_eq, orJ_eq, rg2J_eq, nxtK_eq, setI1_eq, setI2_eq, setI3_eq, retK_eq,  vE_var, varK_ok, vE_int, vE_bl, vE_non, vE_str, vE_tup, vE_lst, vE_bin, vE_neg, vE_not, vE_and, vE_or, vE_cmp, vE_ite, brE_t, brE_f, vE_idx, vE_slc, ab_c, ab_v, ab_b, ab_a, optI_int, if_ft, if_tt, s_tup, vE_call, vE_callk, vE_prim, vE_isin, vE_meth, vE_lc, vE_gcon, toD_int, toD_strs, vE_chain, chnI_eq, chnK_eq, chnJ_t, chnJ_f, vE_tupG, tgJ_eq, tgK_eq, vE_qual, qlK_eq, vE_sumG, smK_eq, vE_lc2, l2K_eq, vEs_nil, vEs_cons, vA_one, vA_cons, vO_one, vO_cons, andK_t, andK_f, orK_t, orK_f, vT_nil, vT_cons, vI_seq, seqK_tup, seqK_rls, seqK_loc, seqL_ok, vI_enum, enK_eq, vI_zip, zpJ_eq, zpK_eq, vI_range1, rg1_int, vI_range2, rg2_int,
  xS_asg, asgK_nm, asgT_nm, asgT_tp2, asgT_tp3, asgK_tp2, asgK_tp3, xS_par, parK_2, parK_3, xS_setS, xS_aug, augV_ok, augK_add, augK_sub, xS_augS, agR_some, agD_eq, agX_eq, agI_eq, agO_eq, idxM_loc, augD_add, augD_sub, xS_expr, xS_ret, xS_retN, xS_ite, brS_t, brS_f, xS_wh, whB_t, whB_f, whK_n, whK_c, whK_b, whK_r, xS_fo, foT_some, foK_n, foK_c, foK_b, foK_r, xS_brk, xS_cont, xS_pass, xS_callx, flX_non, flX_tup, xS_tryx, xS_retx, rtX_non, rtX_tup, xSs_nil, xSs_cons, sqK_n, sqK_r, sqK_b, sqK_c,
  b_add, b_sub, b_mul, b_mulL, b_mulR, b_fdiv, b_mod, b_pow, b_addT, b_addL, addL_ok, b_repT, k_lt, k_le, k_gt, k_ge, k_eq, k_ne, k_isN, k_notN, k_in, k_nin, tr_str, q_int, q_bl, q_str, ofB_some, Option.map_some, tr_bl, tr_int, tr_non, tr_tup, tr_loc, trK_ok, td_bl, td_int, td_tup, i_tup, i_rls, i_loc, idxL_ok, okV_some, at0, at1, at2, at3, at_m1, tupK_ok, lstK_ok, negK_int, p_abs, p_int, p_intB, p_lenT, p_lenR, p_lenL, lenL_ok, p_sorted, p_sum, intsL_ok, allInt_map, srtI_ok, smI_ok, p_max, p_min, p_tupT, p_tupL, tupL_ok, p_lstT, p_lstL, lstL_ok, isD_ok, m_app, appL_ok, m_pop, popL_ok, m_rev, revL_ok, recv_ok, recvL_ok, set_loc, setL_ok, setI_ok, new_eq, Bool.not_true, Bool.not_false, if_true, eq_self, decide_true, decide_false,
  List.set_cons_zero, List.set_cons_succ, List.getElem?_cons_zero, List.getElem?_cons_succ, List.length_cons, List.length_nil, Option.some.injEq, *])
local macro_rules | `(tactic| walk_at "evs") => `(tactic| simp (config := { maxSteps := 3000000 }) (disch := first | assumption | omega | exact ⟨by omega, by omega⟩ | exact ⟨⟨by omega, by omega⟩, ⟨by omega, by omega⟩⟩ | exact Nat.le_of_ble_eq_true rfl | decide) only [Int.reduceEq, wp_ok, bnd_ok, bnd_bad, binJ_eq, binK_eq, notK_eq, cmpJ_eq, cmpK_eq, idxJ_eq, idxK_eq, calJ_eq, clkJ_eq, clkK_eq, priJ_eq, isiJ_eq, metJ_eq, metI_t, metK_eq, lcJ_eq, lcK_eq, conJ_eq, conK_eq, andJ_eq, orJ_eq, rg2J_eq, nxtK_eq, setI1_eq, setI2_eq, setI3_eq, retK_eq,  vE_var, varK_ok, vE_int, vE_bl, vE_non, vE_str, vE_tup, vE_lst, vE_bin, vE_neg, vE_not, vE_and, vE_or, vE_cmp, vE_ite, brE_t, brE_f, vE_idx, vE_slc, ab_c, ab_v, ab_b, ab_a, optI_int, if_ft, if_tt, s_tup, vE_call, vE_callk, vE_prim, vE_isin, vE_meth, vE_lc, vE_gcon, toD_int, toD_strs, vE_chain, chnI_eq, chnK_eq, chnJ_t, chnJ_f, vE_tupG, tgJ_eq, tgK_eq, vE_qual, qlK_eq, vE_sumG, smK_eq, vE_lc2, l2K_eq, vEs_nil, vEs_cons, vA_one, vA_cons, vO_one, vO_cons, andK_t, andK_f, orK_t, orK_f, vT_nil, vT_cons, vI_seq, seqK_tup, seqK_rls, seqK_loc, seqL_ok, vI_enum, enK_eq, vI_zip, zpJ_eq, zpK_eq, vI_range1, rg1_int, vI_range2, rg2_int,
  xS_asg, asgK_nm, asgT_nm, asgT_tp2, asgT_tp3, asgK_tp2, asgK_tp3, xS_par, parK_2, parK_3, xS_setS, xS_aug, augV_ok, augK_add, augK_sub, xS_augS, agR_some, agD_eq, agX_eq, agI_eq, agO_eq, idxM_loc, augD_add, augD_sub, xS_expr, xS_ret, xS_retN, xS_ite, brS_t, brS_f, xS_wh, whB_t, whB_f, whK_n, whK_c, whK_b, whK_r, xS_fo, foT_some, foK_n, foK_c, foK_b, foK_r, xS_brk, xS_cont, xS_pass, xS_callx, flX_non, flX_tup, xS_tryx, xS_retx, rtX_non, rtX_tup, xSs_nil, xSs_cons, sqK_n, sqK_r, sqK_b, sqK_c,
  b_add, b_sub, b_mul, b_mulL, b_mulR, b_fdiv, b_mod, b_pow, b_addT, b_addL, addL_ok, b_repT, k_lt, k_le, k_gt, k_ge, k_eq, k_ne, k_isN, k_notN, k_in, k_nin, tr_str, q_int, q_bl, q_str, ofB_some, Option.map_some, tr_bl, tr_int, tr_non, tr_tup, tr_loc, trK_ok, td_bl, td_int, td_tup, i_tup, i_rls, i_loc, idxL_ok, okV_some, at0, at1, at2, at3, at_m1, tupK_ok, lstK_ok, negK_int, p_abs, p_int, p_intB, p_lenT, p_lenR, p_lenL, lenL_ok, p_sorted, p_sum, intsL_ok, allInt_map, srtI_ok, smI_ok, p_max, p_min, p_tupT, p_tupL, tupL_ok, p_lstT, p_lstL, lstL_ok, isD_ok, m_app, appL_ok, m_pop, popL_ok, m_rev, revL_ok, recv_ok, recvL_ok, set_loc, setL_ok, setI_ok, new_eq, Bool.not_true, Bool.not_false, if_true, eq_self, decide_true, decide_false,
  List.set_cons_zero, List.set_cons_succ, List.getElem?_cons_zero, List.getElem?_cons_succ, List.length_cons, List.length_nil, Option.some.injEq, List.cons_append, List.nil_append, List.append_assoc, Nat.reduceAdd, st_get, st_get0, st_set, st_set0, List.length_append, Nat.add_zero, Nat.zero_add, *])

local macro_rules | `(tactic| walk_at "dv") => `(tactic| repeat with_reducible first | refine wp_bnd ?_ | refine wp_tru ?_ | refine wp_optI ?_)
/-! ### the law -/
def lawA : Ss := .cons (.ite (.not (.call 21 (.cons (.call 19 (.cons (.idx (.var 2) (.var 3)) (.cons (.cmp .eq (.bin .mod (.prim .int (.cons (.var 3) .nil)) (.cint 2)) (.cint 0)) .nil))) (.cons (.cstr (PySem.Str.ofString "data")) (.cons (.call 10 (.cons (.idx (.var 2) (.var 3)) .nil)) .nil))))) (.cons (.ret (.cbl false)) .nil) .nil) .nil
def lawZ : Ss := .cons (.ite (.not (.call 21 (.cons (.call 20 (.cons (.idx (.var 2) (.var 3)) (.cons (.var 6) (.cons (.cmp .eq (.bin .mod (.prim .int (.cons (.var 3) .nil)) (.cint 2)) (.cint 1)) .nil)))) (.cons (.cstr (PySem.Str.ofString "course")) (.cons (.call 11 (.cons (.idx (.var 2) (.var 3)) (.cons (.var 6) .nil))) .nil))))) (.cons (.ret (.cbl false)) .nil) .nil) .nil
theorem at_k {vs : List D} {k : Int} (h0 : 0 ≤ k) (h1 : k < vs.length) : ∃ v, v ∈ vs ∧ atI vs k = some v := by
  have hk : k.toNat < vs.length := by omega
  exact ⟨vs[k.toNat], List.getElem_mem hk, at_nat h0 hk⟩
theorem turnA (S : Store) (j : Nat) (vs : List D) (at_ : S[j]? = some (.lst vs)) (ok : ∀ v ∈ vs, V4 v) (k : Int) (h0 : 0 ≤ k) (h1 : k < vs.length) (o0 o1 o4 o5 o6 : Option D) : exSs (callN P 27) lawA [o0, o1, some (.loc j), some (.int k), o4, o5, o6] S = .ok (.next, [o0, o1, some (.loc j), some (.int k), o4, o5, o6]) S := by
  obtain ⟨v, hv, av⟩ := at_k h0 h1
  obtain ⟨d1, d2⟩ := due_data 22 v (decide (k % 2 = 0)) S (ok v hv).1 (ok v hv).2
  have d3 := e_due 26 (PySem.Str.ofString "data") (by decide +kernel) (dfD v) S
  have d1' : callN P 27 19 [v, .bl (decide (k % 2 = 0))] S = .ok (seenD (PySem.Str.ofString "data") (dfD v)) S := d1
  unfold lawA
  clear ok hv d1
  generalize seenD (PySem.Str.ofString "data") (dfD v) = SD at *
  generalize resL (dfD v) = RD at *
  walk_at "ev*"
theorem turnZ (S : Store) (j : Nat) (vs : List D) (at_ : S[j]? = some (.lst vs)) (lo hi low high : Int) (k : Int) (h0 : 0 ≤ k) (h1 : k < vs.length) (o0 o1 o4 o5 : Option D) : exSs (callN P 27) lawZ [o0, o1, some (.loc j), some (.int k), o4, o5, some (.tup [.int lo, .int hi, .int low, .int high])] S = .ok (.next, [o0, o1, some (.loc j), some (.int k), o4, o5, some (.tup [.int lo, .int hi, .int low, .int high])]) S := by
  obtain ⟨v, hv, av⟩ := at_k h0 h1
  obtain ⟨d1, d2⟩ := due_course 22 lo hi low high v (decide (k % 2 = 1)) S
  have d3 := e_due 26 (PySem.Str.ofString "course") (by decide +kernel) (cfD lo hi low high v) S
  have d1' : callN P 27 20 [v, .tup [.int lo, .int hi, .int low, .int high], .bl (decide (k % 2 = 1))] S = .ok (seenD (PySem.Str.ofString "course") (cfD lo hi low high v)) S := d1
  unfold lawZ
  clear hv d1
  generalize seenD (PySem.Str.ofString "course") (cfD lo hi low high v) = SD at *
  generalize resL (cfD lo hi low high v) = RD at *
  generalize D.tup [.int lo, .int hi, .int low, .int high] = RR at *
  walk_at "ev*"
theorem law_loop (B : Ss) (S : Store) (m : Nat) (en : Option D → SX.Env) (hs : ∀ o k, asgT (.nm 3) (.int k) S (en o) = some (en (some (.int k)))) (hB : ∀ (k : Int), 0 ≤ k → k < m → exSs (callN P 27) B (en (some (.int k))) S = .ok (.next, en (some (.int k))) S) (o3 : Option D) : ∃ o3', foS (callN P 27) (.nm 3) B ⟨rngK 0 m, none⟩ (rngK 0 m) (en o3) S = .ok (.next, en o3') S := by
  obtain ⟨e2, s2, f, ⟨rfl, o, rfl⟩⟩ := fo_inv (callN P 27) (.nm 3) B ⟨rngK 0 m, none⟩ (fun e s => s = S ∧ ∃ o, e = en o) (fun e s _ => here_none s _) (rngK 0 m) (fun d hd e s ⟨g1, o, g2⟩ => by
    subst g1 g2
    obtain ⟨k, rfl, k0, k1⟩ := rng_mem hd
    exact ⟨en (some (.int k)), en (some (.int k)), s, hs o k, hB k k0 k1, rfl, _, rfl⟩) (en o3) S ⟨rfl, o3, rfl⟩
  exact ⟨o, f⟩
theorem main_of (d0 : D) (S0 : Store) (l : Nat) (Sb : Store) (e : callN P 27 5 [d0] S0 = .ok (.loc l) Sb) (hB : Bag Sb l) : ∃ S', SX.callN P 28 22 [d0] S0 = .ok (.bl true) S' := by
  rw [callN_eq 27 _ _ (fd := ⟨1, 7, b_law, false⟩) rfl rfl (Nat.le_of_ble_eq_true rfl)]
  suffices H : Wp (exSs (callN P 27) b_law [some d0, none, none, none, none, none, none] S0) fun r _ => r.1 = .ret (.bl true) by
    obtain ⟨⟨fl, env⟩, S', h, h2⟩ := H
    obtain rfl : fl = .ret (.bl true) := h2
    exact ⟨S', end_any h rfl⟩
  obtain ⟨g, c, x, k, gs, cs, b3⟩ := hB.bag
  have hB : Bg l g c Sb := ⟨x, k, gs, cs, b3⟩
  clear b3
  unfold b_law
  refine wp_seq (fun e S1 => e = [some d0, some (.loc l), none, none, none, none, none] ∧ Bg l g c S1) ?_ ?_
  · walk_at "ev*"
    exact ⟨trivial, by first | rfl | trivial, by first | exact hB | trivial⟩
  rintro e S1 ⟨rfl, hB1⟩
  clear hB
  refine wp_seq (fun e S2 => ∃ (j : Nat) (fs : List D), e = [some d0, some (.loc l), some (.loc j), none, none, none, none] ∧ S2[j]? = some (.lst fs) ∧ (∀ x ∈ fs, V4 x) ∧ fs.length ≤ 200 ∧ Bg l g c S2) ?_ ?_
  · obtain ⟨j, fs, S2, e2, g2, h4, h5, h6, hE⟩ := e_datavalues 19 hB1
    have q := hE.bg
    clear hE hB1 e
    have an := g2
    revert h4
    walk_at "ev*"
    intro h4
    exact ⟨trivial, j, fs, by first | rfl | trivial | simp, by first | exact g2 | trivial, h4, by first | exact h5 | trivial, by first | exact q | trivial⟩
  rintro e S2 ⟨j, fs, rfl, g2, hfs, hfl, hB2⟩
  refine wp_seq (fun e S3 => ∃ o, e = [some d0, some (.loc l), some (.loc j), o, none, none, none] ∧ S3 = S2) ?_ ?_
  · obtain ⟨o, f⟩ := law_loop lawA S2 fs.length (fun o => [some d0, some (.loc l), some (.loc j), o, none, none, none]) (fun _ _ => rfl) (fun k k0 k1 => turnA S2 j fs g2 hfs k k0 k1 _ _ _ _ _) none
    have r1 : R62 (fs.length : Int) := ⟨by omega, by omega⟩
    have i1 : evIt (callN P 27) (.range1 (.prim .len (.cons (.var 2) .nil))) [some d0, some (.loc l), some (.loc j), none, none, none, none] S2 = .ok ⟨rngK 0 fs.length, none⟩ S2 := by
      clear f hfs
      walk_at "ev*"
    rw [xS_fo, i1, bnd_ok]
    exact ⟨_, S2, f, rfl, o, rfl, rfl⟩
  rintro e S3 ⟨o, rfl, rfl⟩
  clear hB1 g2 hfs hfl e
  refine wp_seq (fun e S4 => ∃ lo low : Int, e = [some d0, some (.loc l), some (.loc j), o, some (.int lo), some (.int low), none] ∧ low ≤ 1000 ∧ 1 ≤ low ∧ Bg l g c S4) ?_ ?_
  · walk_at "ev*"
    walk_at "dv"
    refine wp_pickL (N := 27) (c := c) pk7 dr6 (by omega) (hB2.app _) (ds := [.int 1, .int 2, .int 9, .int 990]) (at_new _ _) (nlg hB2 (Nat.le_refl _)).1 (nlg hB2 (Nat.le_refl _)).2 (by simp) (by simp) fun d S4 hd hE4 => ?_
    obtain ⟨lo, rfl, _⟩ := int_of (xs := [1, 2, 9, 990]) hd
    have b4 := hE4.bg
    clear hd hE4 hB2
    try walk_at "ev*"
    walk_at "dv"
    refine wp_pickL (N := 27) (c := c) pk7 dr6 (by omega) (b4.app _) (ds := [.int 1, .int 3, .int 7, .int 1000]) (at_new _ _) (nlg b4 (Nat.le_refl _)).1 (nlg b4 (Nat.le_refl _)).2 (by simp) (by simp) fun d S5 hd hE5 => ?_
    obtain ⟨low, rfl, hl⟩ := int_of (xs := [1, 3, 7, 1000]) hd
    have hl' : 1 ≤ low ∧ low ≤ 1000 := by simp at hl; omega
    have b5 := hE5.bg
    clear hd hE5 b4 hl
    try walk_at "ev"
    exact ⟨trivial, lo, low, by first | rfl | trivial | simp, hl'.2, hl'.1, b5⟩
  rintro e S4 ⟨lo, low, rfl, hl1, hl2, hB4⟩
  refine wp_seq (fun e S5 => ∃ hi high : Int, e = [some d0, some (.loc l), some (.loc j), o, some (.int lo), some (.int low), some (.tup [.int lo, .int hi, .int low, .int high])] ∧ 0 ≤ hi - lo ∧ hi - lo < 1000 ∧ 0 ≤ high - low ∧ high - low < 1000 ∧ Bg l g c S5) ?_ ?_
  · walk_at "ev*"
    walk_at "dv"
    refine wp_pickL (N := 27) (c := c) pk7 dr6 (by omega) (hB4.app _) (ds := [.int 0, .int 1, .int 10]) (at_new _ _) (nlg hB4 (Nat.le_refl _)).1 (nlg hB4 (Nat.le_refl _)).2 (by simp) (by simp) fun d S5 hd hE5 => ?_
    obtain ⟨p, rfl, hp⟩ := int_of (xs := [0, 1, 10]) hd
    have hp' : 0 ≤ p ∧ p ≤ 10 := by simp at hp; omega
    have b5 := hE5.bg
    clear hd hE5 hB4 hp
    try walk_at "ev*"
    walk_at "dv"
    refine wp_pickL (N := 27) (c := c) pk7 dr6 (by omega) (b5.app _) (ds := [.int 0, .int 1, .int 5]) (at_new _ _) (nlg b5 (Nat.le_refl _)).1 (nlg b5 (Nat.le_refl _)).2 (by simp) (by simp) fun d S6 hd hE6 => ?_
    obtain ⟨q, rfl, hq⟩ := int_of (xs := [0, 1, 5]) hd
    have hq' : 0 ≤ q ∧ q ≤ 5 := by simp at hq; omega
    have b6 := hE6.bg
    clear hd hE6 b5 hq
    try walk_at "ev"
    exact ⟨trivial, lo + p, _, by first | rfl | trivial | simp, by omega, by omega, by omega, by omega, b6⟩
  rintro e S5 ⟨hi, high, rfl, a1, a2, a3, a4, hB5⟩
  clear hB4 hB2 hl1 hl2
  refine wp_seq (fun e S6 => ∃ (i : Nat) (us : List D), e = [some d0, some (.loc l), some (.loc i), o, some (.int lo), some (.int low), some (.tup [.int lo, .int hi, .int low, .int high])] ∧ S6[i]? = some (.lst us) ∧ us.length ≤ 200) ?_ ?_
  · obtain ⟨i, us, S6, e6, g6, h5, h6, hE⟩ := e_coursevalues 19 hB5 lo hi low high a1 a2 a3 a4
    clear hE hB5
    generalize D.tup [.int lo, .int hi, .int low, .int high] = RR at *
    walk_at "ev"
    rw [e6, bnd_ok]
    walk_at "ev"
    exact ⟨trivial, i, us, by first | rfl | trivial | simp, g6, h5⟩
  rintro e S6 ⟨i, us, rfl, g6, hul⟩
  refine wp_seq (fun e S7 => e.length = 7) ?_ ?_
  · obtain ⟨o', f⟩ := law_loop lawZ S6 us.length (fun o => [some d0, some (.loc l), some (.loc i), o, some (.int lo), some (.int low), some (.tup [.int lo, .int hi, .int low, .int high])]) (fun _ _ => rfl) (fun k k0 k1 => turnZ S6 i us g6 lo hi low high k k0 k1 _ _ _ _) o
    have r1 : R62 (us.length : Int) := ⟨by omega, by omega⟩
    have i1 : evIt (callN P 27) (.range1 (.prim .len (.cons (.var 2) .nil))) [some d0, some (.loc l), some (.loc i), o, some (.int lo), some (.int low), some (.tup [.int lo, .int hi, .int low, .int high])] S6 = .ok ⟨rngK 0 us.length, none⟩ S6 := by
      clear f
      generalize D.tup [.int lo, .int hi, .int low, .int high] = RR at *
      walk_at "ev*"
    rw [xS_fo, i1, bnd_ok]
    exact ⟨_, S6, f, rfl, rfl⟩
  intro e S7 _
  walk_at "ev"
theorem main (ns : List Int) (hn : ns.length ≤ 63) : (∃ S', SX.callN (prg T) LV i_law [.rls (ns.map .int)] [] = .ok (.bl true) S') ∧ ∃ S', SX.callN (prg T) LV i_law [.loc 0] [.lst (ns.map .int)] = .ok (.bl true) S' := by
  refine ⟨?_, ?_⟩
  · obtain ⟨Sb, l, e, hB⟩ := e_bag (P := P) (f := 5) rfl 26 ns (by omega)
    exact main_of _ _ l Sb e hB
  · obtain ⟨Sb, l, e, hB⟩ := e_bagL (P := P) (f := 5) rfl 26 ns (by omega)
    exact main_of _ _ l Sb e hB
end
end LW
namespace LW
open PySem PySem.Spec PyProof.Rows L2 SX
set_option maxHeartbeats 0 in
theorem all_mk {l : PySem.W.OpenLaw} {w : World} {K : PySem.W.Frag} {h : Heap} {mg : Str → Option Value} {fa : Addr} (X : K.In h) (G : h.Ns mainGlobals mg) (hfa : mg "law" = some (.ref fa)) (hTab : GX.TabsAt l.prog mg h)
    {f0 : Addr} {cd0 : Value} {oc0 kV0 dc0 pm0 ct0 : Value} {od0 an0 : Option Addr} {sl0 : Array (Option Value)} (a0 : PySem.W.nsIn K mainGlobals "is_whole" = some (some (.ref f0))) (l0 : K.lookup f0 = some ⟨oc0, od0, .func (PySem.W.fnOf "is_whole" "is_whole" (defArgs (topS 4)) (defBody (topS 4)) (defScope (topS 4)) .none kV0 dc0 pm0 an0 cd0 ct0), sl0⟩) (k0 : PySem.W.keepIn K (.ref f0) = true)
    (cc0 : PySem.W.codeIn K cd0 "is_whole" = true)
    {f1 : Addr} {cd1 : Value} {oc1 kV1 dc1 pm1 ct1 : Value} {od1 an1 : Option Addr} {sl1 : Array (Option Value)} (a1 : PySem.W.nsIn K mainGlobals "is_tuple" = some (some (.ref f1))) (l1 : K.lookup f1 = some ⟨oc1, od1, .func (PySem.W.fnOf "is_tuple" "is_tuple" (defArgs (topS 5)) (defBody (topS 5)) (defScope (topS 5)) .none kV1 dc1 pm1 an1 cd1 ct1), sl1⟩) (k1 : PySem.W.keepIn K (.ref f1) = true)
    (cc1 : PySem.W.codeIn K cd1 "is_tuple" = true)
    {f2 : Addr} {cd2 : Value} {oc2 kV2 dc2 pm2 ct2 : Value} {od2 an2 : Option Addr} {sl2 : Array (Option Value)} (a2 : PySem.W.nsIn K mainGlobals "is_number" = some (some (.ref f2))) (l2 : K.lookup f2 = some ⟨oc2, od2, .func (PySem.W.fnOf "is_number" "is_number" (defArgs (topS 6)) (defBody (topS 6)) (defScope (topS 6)) .none kV2 dc2 pm2 an2 cd2 ct2), sl2⟩) (k2 : PySem.W.keepIn K (.ref f2) = true)
    (cc2 : PySem.W.codeIn K cd2 "is_number" = true)
    {f3 : Addr} {c3 P3 : Addr} {ce3 : Value} {cdd3 : Option Addr} {cvs3 : Array Value} {csl3 : Array (Option Value)} {oc3 kV3 dc3 pm3 ct3 : Value} {od3 an3 : Option Addr} {sl3 : Array (Option Value)} (a3 : PySem.W.nsIn K mainGlobals "is_stream" = some (some (.ref f3))) (l3 : K.lookup f3 = some ⟨oc3, od3, .func (PySem.W.fnOf "is_stream" "is_stream" (defArgs (topS 11)) (defBody (topS 11)) (defScope (topS 11)) .none kV3 dc3 pm3 an3 (.ref c3) ct3), sl3⟩) (k3 : PySem.W.keepIn K (.ref f3) = true)
    (cc3 : PySem.W.codeIn K (.ref c3) "is_stream" = true)
    (m3 : K.lookup c3 = some ⟨ce3, cdd3, .fields cvs3, csl3⟩) (p3 : cvs3[11]? = some (.ref P3)) (n3 : K.lookup P3 = none) (r3 : ((recsOf l.prog).any fun d => d.name == PySem.Str.ofString "is_stream") = true)
    {f4 : Addr} {cd4 : Value} {oc4 kV4 dc4 pm4 ct4 : Value} {od4 an4 : Option Addr} {sl4 : Array (Option Value)} (a4 : PySem.W.nsIn K mainGlobals "is_fate" = some (some (.ref f4))) (l4 : K.lookup f4 = some ⟨oc4, od4, .func (PySem.W.fnOf "is_fate" "is_fate" (defArgs (topS 13)) (defBody (topS 13)) (defScope (topS 13)) .none kV4 dc4 pm4 an4 cd4 ct4), sl4⟩) (k4 : PySem.W.keepIn K (.ref f4) = true)
    (cc4 : PySem.W.codeIn K cd4 "is_fate" = true)
    {f5 : Addr} {cd5 : Value} {oc5 kV5 dc5 pm5 ct5 : Value} {od5 an5 : Option Addr} {sl5 : Array (Option Value)} (a5 : PySem.W.nsIn K mainGlobals "_law_bag" = some (some (.ref f5))) (l5 : K.lookup f5 = some ⟨oc5, od5, .func (PySem.W.fnOf "_law_bag" "_law_bag" (defArgs (topS 16)) (defBody (topS 16)) (defScope (topS 16)) .none kV5 dc5 pm5 an5 cd5 ct5), sl5⟩) (k5 : PySem.W.keepIn K (.ref f5) = true)
    (cc5 : PySem.W.codeIn K cd5 "_law_bag" = true)
    {f6 : Addr} {cd6 : Value} {oc6 kV6 dc6 pm6 ct6 : Value} {od6 an6 : Option Addr} {sl6 : Array (Option Value)} (a6 : PySem.W.nsIn K mainGlobals "_law_draw" = some (some (.ref f6))) (l6 : K.lookup f6 = some ⟨oc6, od6, .func (PySem.W.fnOf "_law_draw" "_law_draw" (defArgs (topS 17)) (defBody (topS 17)) (defScope (topS 17)) .none kV6 dc6 pm6 an6 cd6 ct6), sl6⟩) (k6 : PySem.W.keepIn K (.ref f6) = true)
    (cc6 : PySem.W.codeIn K cd6 "_law_draw" = true)
    {f7 : Addr} {cd7 : Value} {oc7 kV7 dc7 pm7 ct7 : Value} {od7 an7 : Option Addr} {sl7 : Array (Option Value)} (a7 : PySem.W.nsIn K mainGlobals "_law_pick" = some (some (.ref f7))) (l7 : K.lookup f7 = some ⟨oc7, od7, .func (PySem.W.fnOf "_law_pick" "_law_pick" (defArgs (topS 18)) (defBody (topS 18)) (defScope (topS 18)) .none kV7 dc7 pm7 an7 cd7 ct7), sl7⟩) (k7 : PySem.W.keepIn K (.ref f7) = true)
    (cc7 : PySem.W.codeIn K cd7 "_law_pick" = true)
    {f8 : Addr} {cd8 : Value} {oc8 kV8 dc8 pm8 ct8 : Value} {od8 an8 : Option Addr} {sl8 : Array (Option Value)} (a8 : PySem.W.nsIn K mainGlobals "_law_is_number" = some (some (.ref f8))) (l8 : K.lookup f8 = some ⟨oc8, od8, .func (PySem.W.fnOf "_law_is_number" "_law_is_number" (defArgs (topS 19)) (defBody (topS 19)) (defScope (topS 19)) .none kV8 dc8 pm8 an8 cd8 ct8), sl8⟩) (k8 : PySem.W.keepIn K (.ref f8) = true)
    (cc8 : PySem.W.codeIn K cd8 "_law_is_number" = true)
    {f9 : Addr} {cd9 : Value} {oc9 kV9 dc9 pm9 ct9 : Value} {od9 an9 : Option Addr} {sl9 : Array (Option Value)} (a9 : PySem.W.nsIn K mainGlobals "_law_is_stream" = some (some (.ref f9))) (l9 : K.lookup f9 = some ⟨oc9, od9, .func (PySem.W.fnOf "_law_is_stream" "_law_is_stream" (defArgs (topS 20)) (defBody (topS 20)) (defScope (topS 20)) .none kV9 dc9 pm9 an9 cd9 ct9), sl9⟩) (k9 : PySem.W.keepIn K (.ref f9) = true)
    (cc9 : PySem.W.codeIn K cd9 "_law_is_stream" = true)
    {f10 : Addr} {cd10 : Value} {oc10 kV10 dc10 pm10 ct10 : Value} {od10 an10 : Option Addr} {sl10 : Array (Option Value)} (a10 : PySem.W.nsIn K mainGlobals "_law_data_fault" = some (some (.ref f10))) (l10 : K.lookup f10 = some ⟨oc10, od10, .func (PySem.W.fnOf "_law_data_fault" "_law_data_fault" (defArgs (topS 21)) (defBody (topS 21)) (defScope (topS 21)) .none kV10 dc10 pm10 an10 cd10 ct10), sl10⟩) (k10 : PySem.W.keepIn K (.ref f10) = true)
    (cc10 : PySem.W.codeIn K cd10 "_law_data_fault" = true)
    {f11 : Addr} {cd11 : Value} {oc11 kV11 dc11 pm11 ct11 : Value} {od11 an11 : Option Addr} {sl11 : Array (Option Value)} (a11 : PySem.W.nsIn K mainGlobals "_law_course_fault" = some (some (.ref f11))) (l11 : K.lookup f11 = some ⟨oc11, od11, .func (PySem.W.fnOf "_law_course_fault" "_law_course_fault" (defArgs (topS 22)) (defBody (topS 22)) (defScope (topS 22)) .none kV11 dc11 pm11 an11 cd11 ct11), sl11⟩) (k11 : PySem.W.keepIn K (.ref f11) = true)
    (cc11 : PySem.W.codeIn K cd11 "_law_course_fault" = true)
    {f12 : Addr} {cd12 : Value} {oc12 kV12 dc12 pm12 ct12 : Value} {od12 an12 : Option Addr} {sl12 : Array (Option Value)} (a12 : PySem.W.nsIn K mainGlobals "_law_stream_of" = some (some (.ref f12))) (l12 : K.lookup f12 = some ⟨oc12, od12, .func (PySem.W.fnOf "_law_stream_of" "_law_stream_of" (defArgs (topS 23)) (defBody (topS 23)) (defScope (topS 23)) .none kV12 dc12 pm12 an12 cd12 ct12), sl12⟩) (k12 : PySem.W.keepIn K (.ref f12) = true)
    (cc12 : PySem.W.codeIn K cd12 "_law_stream_of" = true)
    {f13 : Addr} {cd13 : Value} {oc13 kV13 dc13 pm13 ct13 : Value} {od13 an13 : Option Addr} {sl13 : Array (Option Value)} (a13 : PySem.W.nsIn K mainGlobals "_law_data_of" = some (some (.ref f13))) (l13 : K.lookup f13 = some ⟨oc13, od13, .func (PySem.W.fnOf "_law_data_of" "_law_data_of" (defArgs (topS 24)) (defBody (topS 24)) (defScope (topS 24)) .none kV13 dc13 pm13 an13 cd13 ct13), sl13⟩) (k13 : PySem.W.keepIn K (.ref f13) = true)
    (cc13 : PySem.W.codeIn K cd13 "_law_data_of" = true)
    {f14 : Addr} {cd14 : Value} {oc14 kV14 dc14 pm14 ct14 : Value} {od14 an14 : Option Addr} {sl14 : Array (Option Value)} (a14 : PySem.W.nsIn K mainGlobals "_law_exchanged" = some (some (.ref f14))) (l14 : K.lookup f14 = some ⟨oc14, od14, .func (PySem.W.fnOf "_law_exchanged" "_law_exchanged" (defArgs (topS 25)) (defBody (topS 25)) (defScope (topS 25)) .none kV14 dc14 pm14 an14 cd14 ct14), sl14⟩) (k14 : PySem.W.keepIn K (.ref f14) = true)
    (cc14 : PySem.W.codeIn K cd14 "_law_exchanged" = true)
    {f15 : Addr} {cd15 : Value} {oc15 kV15 dc15 pm15 ct15 : Value} {od15 an15 : Option Addr} {sl15 : Array (Option Value)} (a15 : PySem.W.nsIn K mainGlobals "_law_spoilt_stream" = some (some (.ref f15))) (l15 : K.lookup f15 = some ⟨oc15, od15, .func (PySem.W.fnOf "_law_spoilt_stream" "_law_spoilt_stream" (defArgs (topS 26)) (defBody (topS 26)) (defScope (topS 26)) .none kV15 dc15 pm15 an15 cd15 ct15), sl15⟩) (k15 : PySem.W.keepIn K (.ref f15) = true)
    (cc15 : PySem.W.codeIn K cd15 "_law_spoilt_stream" = true)
    {f16 : Addr} {cd16 : Value} {oc16 kV16 dc16 pm16 ct16 : Value} {od16 an16 : Option Addr} {sl16 : Array (Option Value)} (a16 : PySem.W.nsIn K mainGlobals "_law_data_values" = some (some (.ref f16))) (l16 : K.lookup f16 = some ⟨oc16, od16, .func (PySem.W.fnOf "_law_data_values" "_law_data_values" (defArgs (topS 27)) (defBody (topS 27)) (defScope (topS 27)) .none kV16 dc16 pm16 an16 cd16 ct16), sl16⟩) (k16 : PySem.W.keepIn K (.ref f16) = true)
    (cc16 : PySem.W.codeIn K cd16 "_law_data_values" = true)
    {f17 : Addr} {cd17 : Value} {oc17 kV17 dc17 pm17 ct17 : Value} {od17 an17 : Option Addr} {sl17 : Array (Option Value)} (a17 : PySem.W.nsIn K mainGlobals "_law_fates_of" = some (some (.ref f17))) (l17 : K.lookup f17 = some ⟨oc17, od17, .func (PySem.W.fnOf "_law_fates_of" "_law_fates_of" (defArgs (topS 28)) (defBody (topS 28)) (defScope (topS 28)) .none kV17 dc17 pm17 an17 cd17 ct17), sl17⟩) (k17 : PySem.W.keepIn K (.ref f17) = true)
    (cc17 : PySem.W.codeIn K cd17 "_law_fates_of" = true)
    {f18 : Addr} {cd18 : Value} {oc18 kV18 dc18 pm18 ct18 : Value} {od18 an18 : Option Addr} {sl18 : Array (Option Value)} (a18 : PySem.W.nsIn K mainGlobals "_law_course_values" = some (some (.ref f18))) (l18 : K.lookup f18 = some ⟨oc18, od18, .func (PySem.W.fnOf "_law_course_values" "_law_course_values" (defArgs (topS 29)) (defBody (topS 29)) (defScope (topS 29)) .none kV18 dc18 pm18 an18 cd18 ct18), sl18⟩) (k18 : PySem.W.keepIn K (.ref f18) = true)
    (cc18 : PySem.W.codeIn K cd18 "_law_course_values" = true)
    {f19 : Addr} {cd19 : Value} {oc19 kV19 dc19 pm19 ct19 : Value} {od19 an19 : Option Addr} {sl19 : Array (Option Value)} (a19 : PySem.W.nsIn K mainGlobals "_law_seen_data" = some (some (.ref f19))) (l19 : K.lookup f19 = some ⟨oc19, od19, .func (PySem.W.fnOf "_law_seen_data" "_law_seen_data" (defArgs (topS 30)) (defBody (topS 30)) (defScope (topS 30)) .none kV19 dc19 pm19 an19 cd19 ct19), sl19⟩) (k19 : PySem.W.keepIn K (.ref f19) = true)
    (cc19 : PySem.W.codeIn K cd19 "_law_seen_data" = true)
    {f20 : Addr} {cd20 : Value} {oc20 kV20 dc20 pm20 ct20 : Value} {od20 an20 : Option Addr} {sl20 : Array (Option Value)} (a20 : PySem.W.nsIn K mainGlobals "_law_seen_course" = some (some (.ref f20))) (l20 : K.lookup f20 = some ⟨oc20, od20, .func (PySem.W.fnOf "_law_seen_course" "_law_seen_course" (defArgs (topS 31)) (defBody (topS 31)) (defScope (topS 31)) .none kV20 dc20 pm20 an20 cd20 ct20), sl20⟩) (k20 : PySem.W.keepIn K (.ref f20) = true)
    (cc20 : PySem.W.codeIn K cd20 "_law_seen_course" = true)
    {f21 : Addr} {cd21 : Value} {oc21 kV21 dc21 pm21 ct21 : Value} {od21 an21 : Option Addr} {sl21 : Array (Option Value)} (a21 : PySem.W.nsIn K mainGlobals "_law_is_due" = some (some (.ref f21))) (l21 : K.lookup f21 = some ⟨oc21, od21, .func (PySem.W.fnOf "_law_is_due" "_law_is_due" (defArgs (topS 32)) (defBody (topS 32)) (defScope (topS 32)) .none kV21 dc21 pm21 an21 cd21 ct21), sl21⟩) (k21 : PySem.W.keepIn K (.ref f21) = true)
    (cc21 : PySem.W.codeIn K cd21 "_law_is_due" = true)
    {f22 : Addr} {cd22 : Value} {oc22 kV22 dc22 pm22 ct22 : Value} {od22 an22 : Option Addr} {sl22 : Array (Option Value)} (a22 : PySem.W.nsIn K mainGlobals "law" = some (some (.ref f22))) (l22 : K.lookup f22 = some ⟨oc22, od22, .func (PySem.W.fnOf "law" "law" (defArgs (topS 33)) (defBody (topS 33)) (defScope (topS 33)) .none kV22 dc22 pm22 an22 cd22 ct22), sl22⟩) (k22 : PySem.W.keepIn K (.ref f22) = true)
    (cc22 : PySem.W.codeIn K cd22 "law" = true)
    {f23 : Addr} {cd23 : Value} {oc23 kV23 dc23 pm23 ct23 : Value} {od23 an23 : Option Addr} {sl23 : Array (Option Value)} (a23 : PySem.W.nsIn K mainGlobals "check_data" = some (some (.ref f23))) (l23 : K.lookup f23 = some ⟨oc23, od23, .func (PySem.W.fnOf "check_data" "check_data" (defArgs (topS 12)) (defBody (topS 12)) (defScope (topS 12)) .none kV23 dc23 pm23 an23 cd23 ct23), sl23⟩) (k23 : PySem.W.keepIn K (.ref f23) = true)
    (cc23 : PySem.W.codeIn K cd23 "check_data" = true)
    {f24 : Addr} {c24 P24 : Addr} {ce24 : Value} {cdd24 : Option Addr} {cvs24 : Array Value} {csl24 : Array (Option Value)} {oc24 kV24 dc24 pm24 ct24 : Value} {od24 an24 : Option Addr} {sl24 : Array (Option Value)} (a24 : PySem.W.nsIn K mainGlobals "check_course" = some (some (.ref f24))) (l24 : K.lookup f24 = some ⟨oc24, od24, .func (PySem.W.fnOf "check_course" "check_course" (defArgs (topS 14)) (defBody (topS 14)) (defScope (topS 14)) .none kV24 dc24 pm24 an24 (.ref c24) ct24), sl24⟩) (k24 : PySem.W.keepIn K (.ref f24) = true)
    (cc24 : PySem.W.codeIn K (.ref c24) "check_course" = true)
    (m24 : K.lookup c24 = some ⟨ce24, cdd24, .fields cvs24, csl24⟩) (p24 : cvs24[11]? = some (.ref P24)) (n24 : K.lookup P24 = none) (r24 : ((recsOf l.prog).any fun d => d.name == PySem.Str.ofString "check_course") = true)
    (z0 : PySem.W.nsIn K mainGlobals "isinstance" = some none)
    (z1 : PySem.W.nsIn K mainGlobals "bool" = some none)
    (z2 : PySem.W.nsIn K mainGlobals "int" = some none)
    (z3 : PySem.W.nsIn K mainGlobals "len" = some none)
    (z4 : PySem.W.nsIn K mainGlobals "tuple" = some none)
    (z5 : PySem.W.nsIn K mainGlobals "any" = some none)
    (z6 : PySem.W.nsIn K mainGlobals "zip" = some none)
    (z7 : PySem.W.nsIn K mainGlobals "all" = some none)
    (z8 : PySem.W.nsIn K mainGlobals "abs" = some none)
    (z9 : PySem.W.nsIn K mainGlobals "range" = some none)
    (z10 : PySem.W.nsIn K mainGlobals "sorted" = some none)
    (z11 : PySem.W.nsIn K mainGlobals "sum" = some none)
    (z12 : PySem.W.nsIn K mainGlobals "str" = some none)
    (z13 : PySem.W.nsIn K mainGlobals "min" = some none)
    (z14 : PySem.W.nsIn K mainGlobals "enumerate" = some none)
    {C fI cda ccl : Addr} {nm q : Str} {N : Addr} {bs bm : List Value} {sn : List Str} {sub : List Value} {ab : Bool} {col : Option Bool} {dd : Option Addr} {x0 x1 x2 x3 x5 : Option Value} {yoc yct y1 y2 ykV ydc ypm : Value} {yod yan yd1 yd2 : Option Addr} {yo1 yo2 yo3 : Array (Option Value)} {w1 w2 w3 u0 u1 u3 u4 u5 u6 u7 u8 u9 ub v0 v1 v2 v3 t0 t1 t2 t3 : Pos} {vs : Array Value} {file : Str} {tf : Tok}
    (aC : PySem.W.nsIn K mainGlobals "BadPart" = some (some (.ref C))) (xL : K.lookup C = some (excClassObj nm q C N bs bm true sn sub ab col dd x0 x1 x2 x3 x5 "ValueError.__new__")) (xR : PySem.HandSPX.refsVE bm = true)
    (sa : PySem.W.findIn K (.ref C) "__setattr__" = some (some (.builtin "object.__setattr__"))) (ga : PySem.W.findIn K (.ref C) "__getattribute__" = some (some (.builtin "BaseException.__getattribute__"))) (gg : PySem.W.findIn K (.ref C) "__getattr__" = some none)
    (noP : PySem.W.findIn K (.ref C) "part" = some none) (noN : PySem.W.findIn K (.ref C) "number" = some none) (iC : PySem.W.findIn K (.ref C) "__init__" = some (some (.ref fI))) (tfI : PySem.W.typeIn K (.ref fI) = some (.type "function"))
    (kC : PySem.W.keepIn K (.ref C) = true) (eC : PySem.W.subIn K (.ref C) (.type "BaseException") = some true) (tyC : PySem.W.typeIn K (.ref C) = some (.type "type")) (hC : PySem.W.hasDictIn K C = true) (isC : PySem.W.isClsIn K C = true) (sC : PySem.W.subIn K (.ref C) (.ref C) = some true)
    (opq : PySem.W.nsIn K cStatics "thirdparty.any" = some none) (sup : PySem.W.ks_superIn K C C "__init__" = some (some (.builtin "ValueError.__init__"))) (sVE : PySem.W.subIn K (.ref C) (.type "ValueError") = some true) (own : PySem.W.mroIn K C (.ref C) = some true)
    (noS : PySem.W.nsIn K mainGlobals "super" = some none) (top : (l.prog.main.scope.names.lookup ("super" : Str)).isSome = false)
    (lf : K.lookup fI = some ⟨yoc, yod, .func (PySem.W.ksFn "__init__" "BadPart.__init__" (EX.bpA w1 w2 w3) (EX.bpB u0 u1 u3 u4 u5 u6 u7 u8 u9 ub v0 v1 v2 v3 t0 t1 t2 t3) EX.bpS .none ykV ydc ypm yan (.ref cda) yct ccl), yo1⟩) (lc : PySem.W.codeIn K (.ref cda) "BadPart.__init__" = true)
    (lk : K.lookup cda = some ⟨y1, yd1, .fields vs, yo2⟩) (lv : vs[2]? = some (.str file tf)) (lfile : ((l.prog.main.file : Str) == file) = true) (lcell : K.lookup ccl = some ⟨y2, yd2, .cell (some (.ref C)), yo3⟩)
    {tk0 : Tok} (q0 : PySem.W.nsIn K mainGlobals "MOST_TICK" = some (some (.int 100000 tk0)))
    {tk1 : Tok} (q1 : PySem.W.nsIn K mainGlobals "MOST_LETTERS" = some (some (.int 60 tk1)))
    {tk2 : Tok} (q2 : PySem.W.nsIn K mainGlobals "MOST_FATES" = some (some (.int 400 tk2)))
    : LamX.LawAtS l w K CX0 (8 * LV) 63 "script" mg fa h := by
  letI tabs : Tabs := ⟨[(c3, P3), (c24, P24)]⟩
  have e := hfa.symm.trans (PySem.W.mg_of X G a22)
  cases e
  have K0 : DefK K mg kw 0 d_is_whole := defK_mk (d := d_is_whole) X G a0 l0 cc0 k0 (fun _ _ _ _ _ _ us hl => match us, hl with | [_], _ => rfl) (fun kV doc pm an cdv ct q hq => (nomatch (show q ∈ ([] : List (Nat × List Str × List Nat)) from hq))) (fun z => by cases z)
  have K1 : DefK K mg kw 1 d_is_tuple := defK_mk (d := d_is_tuple) X G a1 l1 cc1 k1 (fun _ _ _ _ _ _ us hl => match us, hl with | [_, _], _ => rfl) (fun kV doc pm an cdv ct q hq => (nomatch (show q ∈ ([] : List (Nat × List Str × List Nat)) from hq))) (fun z => by cases z)
  have K2 : DefK K mg kw 2 d_is_number := defK_mk (d := d_is_number) X G a2 l2 cc2 k2 (fun _ _ _ _ _ _ us hl => match us, hl with | [_, _, _], _ => rfl) (fun kV doc pm an cdv ct q hq => (nomatch (show q ∈ ([] : List (Nat × List Str × List Nat)) from hq))) (fun z => by cases z)
  have K3 : DefK K mg kw 3 d_is_stream := defK_mk (d := d_is_stream) X G a3 l3 cc3 k3 (fun _ _ _ _ _ _ us hl => match us, hl with | [_], _ => rfl) (fun kV doc pm an cdv ct q hq => (nomatch (show q ∈ ([] : List (Nat × List Str × List Nat)) from hq))) (fun _ => ⟨c3, P3, rfl, by show (c3, P3) ∈ [(c3, P3), (c24, P24)]; simp⟩)
  have K4 : DefK K mg kw 4 d_is_fate := defK_mk (d := d_is_fate) X G a4 l4 cc4 k4 (fun _ _ _ _ _ _ us hl => match us, hl with | [_, _, _], _ => rfl) (fun kV doc pm an cdv ct q hq => (nomatch (show q ∈ ([] : List (Nat × List Str × List Nat)) from hq))) (fun z => by cases z)
  have K5 : DefK K mg kw 5 d__law_bag := defK_mk (d := d__law_bag) X G a5 l5 cc5 k5 (fun _ _ _ _ _ _ us hl => match us, hl with | [_], _ => rfl) (fun kV doc pm an cdv ct q hq => (nomatch (show q ∈ ([] : List (Nat × List Str × List Nat)) from hq))) (fun z => by cases z)
  have K6 : DefK K mg kw 6 d__law_draw := defK_mk (d := d__law_draw) X G a6 l6 cc6 k6 (fun _ _ _ _ _ _ us hl => match us, hl with | [_, _], _ => rfl) (fun kV doc pm an cdv ct q hq => (nomatch (show q ∈ ([] : List (Nat × List Str × List Nat)) from hq))) (fun z => by cases z)
  have K7 : DefK K mg kw 7 d__law_pick := defK_mk (d := d__law_pick) X G a7 l7 cc7 k7 (fun _ _ _ _ _ _ us hl => match us, hl with | [_, _], _ => rfl) (fun kV doc pm an cdv ct q hq => (nomatch (show q ∈ ([] : List (Nat × List Str × List Nat)) from hq))) (fun z => by cases z)
  have K8 : DefK K mg kw 8 d__law_is_number := defK_mk (d := d__law_is_number) X G a8 l8 cc8 k8 (fun _ _ _ _ _ _ us hl => match us, hl with | [_, _, _], _ => rfl) (fun kV doc pm an cdv ct q hq => (nomatch (show q ∈ ([] : List (Nat × List Str × List Nat)) from hq))) (fun z => by cases z)
  have K9 : DefK K mg kw 9 d__law_is_stream := defK_mk (d := d__law_is_stream) X G a9 l9 cc9 k9 (fun _ _ _ _ _ _ us hl => match us, hl with | [_], _ => rfl) (fun kV doc pm an cdv ct q hq => (nomatch (show q ∈ ([] : List (Nat × List Str × List Nat)) from hq))) (fun z => by cases z)
  have K10 : DefK K mg kw 10 d__law_data_fault := defK_mk (d := d__law_data_fault) X G a10 l10 cc10 k10 (fun _ _ _ _ _ _ us hl => match us, hl with | [_], _ => rfl) (fun kV doc pm an cdv ct q hq => (nomatch (show q ∈ ([] : List (Nat × List Str × List Nat)) from hq))) (fun z => by cases z)
  have K11 : DefK K mg kw 11 d__law_course_fault := defK_mk (d := d__law_course_fault) X G a11 l11 cc11 k11 (fun _ _ _ _ _ _ us hl => match us, hl with | [_, _], _ => rfl) (fun kV doc pm an cdv ct q hq => (nomatch (show q ∈ ([] : List (Nat × List Str × List Nat)) from hq))) (fun z => by cases z)
  have K12 : DefK K mg kw 12 d__law_stream_of := defK_mk (d := d__law_stream_of) X G a12 l12 cc12 k12 (fun _ _ _ _ _ _ us hl => match us, hl with | [_, _], _ => rfl) (fun kV doc pm an cdv ct q hq => (nomatch (show q ∈ ([] : List (Nat × List Str × List Nat)) from hq))) (fun z => by cases z)
  have K13 : DefK K mg kw 13 d__law_data_of := defK_mk (d := d__law_data_of) X G a13 l13 cc13 k13 (fun _ _ _ _ _ _ us hl => match us, hl with | [_], _ => rfl) (fun kV doc pm an cdv ct q hq => (nomatch (show q ∈ ([] : List (Nat × List Str × List Nat)) from hq))) (fun z => by cases z)
  have K14 : DefK K mg kw 14 d__law_exchanged := defK_mk (d := d__law_exchanged) X G a14 l14 cc14 k14 (fun _ _ _ _ _ _ us hl => match us, hl with | [_, _, _], _ => rfl) (fun kV doc pm an cdv ct q hq => (nomatch (show q ∈ ([] : List (Nat × List Str × List Nat)) from hq))) (fun z => by cases z)
  have K15 : DefK K mg kw 15 d__law_spoilt_stream := defK_mk (d := d__law_spoilt_stream) X G a15 l15 cc15 k15 (fun _ _ _ _ _ _ us hl => match us, hl with | [_, _], _ => rfl) (fun kV doc pm an cdv ct q hq => (nomatch (show q ∈ ([] : List (Nat × List Str × List Nat)) from hq))) (fun z => by cases z)
  have K16 : DefK K mg kw 16 d__law_data_values := defK_mk (d := d__law_data_values) X G a16 l16 cc16 k16 (fun _ _ _ _ _ _ us hl => match us, hl with | [_], _ => rfl) (fun kV doc pm an cdv ct q hq => (nomatch (show q ∈ ([] : List (Nat × List Str × List Nat)) from hq))) (fun z => by cases z)
  have K17 : DefK K mg kw 17 d__law_fates_of := defK_mk (d := d__law_fates_of) X G a17 l17 cc17 k17 (fun _ _ _ _ _ _ us hl => match us, hl with | [_, _, _, _], _ => rfl) (fun kV doc pm an cdv ct q hq => (nomatch (show q ∈ ([] : List (Nat × List Str × List Nat)) from hq))) (fun z => by cases z)
  have K18 : DefK K mg kw 18 d__law_course_values := defK_mk (d := d__law_course_values) X G a18 l18 cc18 k18 (fun _ _ _ _ _ _ us hl => match us, hl with | [_, _], _ => rfl) (fun kV doc pm an cdv ct q hq => (nomatch (show q ∈ ([] : List (Nat × List Str × List Nat)) from hq))) (fun z => by cases z)
  have K19 : DefK K mg kw 19 d__law_seen_data := defK_mk (d := d__law_seen_data) X G a19 l19 cc19 k19 (fun _ _ _ _ _ _ us hl => match us, hl with | [_, _], _ => rfl) (fun kV doc pm an cdv ct q hq => (nomatch (show q ∈ ([] : List (Nat × List Str × List Nat)) from hq))) (fun z => by cases z)
  have K20 : DefK K mg kw 20 d__law_seen_course := defK_mk (d := d__law_seen_course) X G a20 l20 cc20 k20 (fun _ _ _ _ _ _ us hl => match us, hl with | [_, _, _], _ => rfl) (fun kV doc pm an cdv ct q hq => (nomatch (show q ∈ ([] : List (Nat × List Str × List Nat)) from hq))) (fun z => by cases z)
  have K21 : DefK K mg kw 21 d__law_is_due := defK_mk (d := d__law_is_due) X G a21 l21 cc21 k21 (fun _ _ _ _ _ _ us hl => match us, hl with | [_, _, _], _ => rfl) (fun kV doc pm an cdv ct q hq => (nomatch (show q ∈ ([] : List (Nat × List Str × List Nat)) from hq))) (fun z => by cases z)
  have K22 : DefK K mg kw 22 d_law := defK_mk (d := d_law) X G a22 l22 cc22 k22 (fun _ _ _ _ _ _ us hl => match us, hl with | [_], _ => rfl) (fun kV doc pm an cdv ct q hq => (nomatch (show q ∈ ([] : List (Nat × List Str × List Nat)) from hq))) (fun z => by cases z)
  have K23 : DefK K mg kw 23 d_check_data := defK_mk (d := d_check_data) X G a23 l23 cc23 k23 (fun _ _ _ _ _ _ us hl => match us, hl with | [_], _ => rfl) (fun kV doc pm an cdv ct q hq => by
      have hq' : q ∈ [((0, [PySem.Str.ofString "value"], [0]) : Nat × List Str × List Nat)] := hq
      simp only [List.mem_cons, List.not_mem_nil, or_false] at hq'
      subst hq'
      · exact ⟨fun us ws h1 h2 => match us, ws, h1, h2 with | [], [_], _, _ => rfl, by decide⟩) (fun z => by cases z)
  have K24 : DefK K mg kw 24 d_check_course := defK_mk (d := d_check_course) X G a24 l24 cc24 k24 (fun _ _ _ _ _ _ us hl => match us, hl with | [_, _], _ => rfl) (fun kV doc pm an cdv ct q hq => by
      have hq' : q ∈ [((0, [PySem.Str.ofString "road", PySem.Str.ofString "value"], [1, 0]) : Nat × List Str × List Nat)] := hq
      simp only [List.mem_cons, List.not_mem_nil, or_false] at hq'
      subst hq'
      · exact ⟨fun us ws h1 h2 => match us, ws, h1, h2 with | [], [_, _], _, _ => rfl, by decide⟩) (fun _ => ⟨c24, P24, rfl, by show (c24, P24) ∈ [(c3, P3), (c24, P24)]; simp⟩)
  have hk : ∀ (f : Nat) (d : Def), T[f]? = some d → DefK K mg kw f d := kall_get (⟨K0, ⟨K1, ⟨K2, ⟨K3, ⟨K4, ⟨K5, ⟨K6, ⟨K7, ⟨K8, ⟨K9, ⟨K10, ⟨K11, ⟨K12, ⟨K13, ⟨K14, ⟨K15, ⟨K16, ⟨K17, ⟨K18, ⟨K19, ⟨K20, ⟨K21, ⟨K22, ⟨K23, ⟨K24, True.intro⟩⟩⟩⟩⟩⟩⟩⟩⟩⟩⟩⟩⟩⟩⟩⟩⟩⟩⟩⟩⟩⟩⟩⟩⟩)
  have hb : ∀ x, bl.contains x = true → mg x = none := fun x hx => by
    have hx' : x ∈ bl := by simpa using hx
    simp only [bl, List.mem_cons, List.not_mem_nil, or_false] at hx'
    rcases hx' with rfl | rfl | rfl | rfl | rfl | rfl | rfl | rfl | rfl | rfl | rfl | rfl | rfl | rfl | rfl
    · exact PySem.W.mg_none_of X G z0
    · exact PySem.W.mg_none_of X G z1
    · exact PySem.W.mg_none_of X G z2
    · exact PySem.W.mg_none_of X G z3
    · exact PySem.W.mg_none_of X G z4
    · exact PySem.W.mg_none_of X G z5
    · exact PySem.W.mg_none_of X G z6
    · exact PySem.W.mg_none_of X G z7
    · exact PySem.W.mg_none_of X G z8
    · exact PySem.W.mg_none_of X G z9
    · exact PySem.W.mg_none_of X G z10
    · exact PySem.W.mg_none_of X G z11
    · exact PySem.W.mg_none_of X G z12
    · exact PySem.W.mg_none_of X G z13
    · exact PySem.W.mg_none_of X G z14
  have hco : ∀ x k, (x, k) ∈ co → ConOk K mg x k := fun x k hx => by
    simp only [co, List.mem_cons, List.not_mem_nil, or_false, Prod.mk.injEq] at hx
    rcases hx with ⟨rfl, rfl⟩ | ⟨rfl, rfl⟩ | ⟨rfl, rfl⟩
    · exact con_int (PySem.W.mg_of X G q0)
    · exact con_int (PySem.W.mg_of X G q1)
    · exact con_int (PySem.W.mg_of X G q2)
  have F := fun_mk (st := topS 33) l22 cc22 k22
  have hT : ∀ p ∈ Tabs.cs, (h.get? p.2 = some { cls := .none, data := .fields #[] } ∧ PySem.W.CodeHd h p.1 p.2) ∧ K.lookup p.2 = none := fun p hp => by
    have hp' : p ∈ [(c3, P3), (c24, P24)] := hp
    simp only [List.mem_cons, List.not_mem_nil, or_false] at hp'
    rcases hp' with rfl | rfl
    · exact ⟨tab_of X hTab r3 (PySem.W.mg_of X G a3) l3 rfl m3 p3, n3⟩
    · exact ⟨tab_of X hTab r24 (PySem.W.mg_of X G a24) l24 rfl m24 p24, n24⟩
  have tx : EX.BpTxt l.prog K mg C fI := { gC := PySem.W.mg_of X G aC, cls := ⟨nm, q, N, bs, bm, sn, sub, ab, col, dd, x0, x1, x2, x3, x5, xL, xR⟩, sa := sa, noP := noP, noN := noN, iC := iC, tC := tfI, kC := kC, xf := ⟨ga, gg, eC, hC⟩, tyC := tyC, te := exm_own eC isC tyC sC, opq := opq, sup := sup, sub := sVE, own := own, noS := noS, top := top, fn := ⟨_, _, _, _, _, _, _, _, _, _, _, _, _, _, _, _, _, _, _, _, _, _, _, _, _, _, _, _, _, _, _, _, _, _, _, _, _, _, _, _, lf, lc, lk, lv, lfile, lcell⟩ }
  exact law_atX (i := i_law) (d := d_law) hs hk hb hco (by decide) tx (by decide) rfl rfl (PySem.W.mg_of X G a22) F (fun s v => .of_eq rfl) hT fun ns hl => LW.main ns hl
end LW
open PySem PySem.W PyProof.Rows
set_option maxHeartbeats 0 in
theorem PySem.Challenge.cw_surecrossing_k02_data_and_courses_holds : PySem.Challenge.rw_surecrossing_k02_data_and_courses.Holds := by
  w_on; o_law; k_head; (case hw => w_witness2)
  k_fill
  refine GX.walk_ofAll (l := PySem.Challenge.rw_surecrossing_k02_data_and_courses) (n := 63) (k := 8 * LW.LV) (x := "script") (CX := fun _ => L2.CX0) rfl (by decide) rfl ⟨rfl, by decide, by decide⟩ (fun w h Y => PySem.W.kIn_of Y) ?F (fun _ _ _ _ _ h => h)
  case F =>
    intro w mg fa h Y KX G hmg hTab
    refine' LW.all_mk KX G hmg hTab ?a0 ?l0 ?k0 ?cc0 ?a1 ?l1 ?k1 ?cc1 ?a2 ?l2 ?k2 ?cc2 ?a3 ?l3 ?k3 ?cc3 ?m3 ?p3 ?n3 ?r3 ?a4 ?l4 ?k4 ?cc4 ?a5 ?l5 ?k5 ?cc5 ?a6 ?l6 ?k6 ?cc6 ?a7 ?l7 ?k7 ?cc7 ?a8 ?l8 ?k8 ?cc8 ?a9 ?l9 ?k9 ?cc9 ?a10 ?l10 ?k10 ?cc10 ?a11 ?l11 ?k11 ?cc11 ?a12 ?l12 ?k12 ?cc12 ?a13 ?l13 ?k13 ?cc13 ?a14 ?l14 ?k14 ?cc14 ?a15 ?l15 ?k15 ?cc15 ?a16 ?l16 ?k16 ?cc16 ?a17 ?l17 ?k17 ?cc17 ?a18 ?l18 ?k18 ?cc18 ?a19 ?l19 ?k19 ?cc19 ?a20 ?l20 ?k20 ?cc20 ?a21 ?l21 ?k21 ?cc21 ?a22 ?l22 ?k22 ?cc22 ?a23 ?l23 ?k23 ?cc23 ?a24 ?l24 ?k24 ?cc24 ?m24 ?p24 ?n24 ?r24 ?z0 ?z1 ?z2 ?z3 ?z4 ?z5 ?z6 ?z7 ?z8 ?z9 ?z10 ?z11 ?z12 ?z13 ?z14 ?aC ?xL ?xR ?sa ?ga ?gg ?noP ?noN ?iC ?tfI ?kC ?eC ?tyC ?hC ?isC ?sC ?opq ?sup ?sVE ?own ?noS ?top ?lf ?lc ?lk ?lv ?lfile ?lcell ?q0 ?q1 ?q2
    (case a0 => k_is); (case l0 => k_is); (case k0 => k_is); (case cc0 => k_is); (case a1 => k_is); (case l1 => k_is); (case k1 => k_is); (case cc1 => k_is); (case a2 => k_is); (case l2 => k_is); (case k2 => k_is); (case cc2 => k_is); (case a3 => k_is); (case l3 => k_is); (case k3 => k_is); (case cc3 => k_is); (case m3 => k_is); (case p3 => with_unfolding_all rfl); (case n3 => with_unfolding_all rfl); (case r3 => with_unfolding_all rfl); (case a4 => k_is); (case l4 => k_is); (case k4 => k_is); (case cc4 => k_is); (case a5 => k_is); (case l5 => k_is); (case k5 => k_is); (case cc5 => k_is); (case a6 => k_is); (case l6 => k_is); (case k6 => k_is); (case cc6 => k_is); (case a7 => k_is); (case l7 => k_is); (case k7 => k_is); (case cc7 => k_is); (case a8 => k_is); (case l8 => k_is); (case k8 => k_is); (case cc8 => k_is); (case a9 => k_is); (case l9 => k_is); (case k9 => k_is); (case cc9 => k_is); (case a10 => k_is); (case l10 => k_is); (case k10 => k_is); (case cc10 => k_is); (case a11 => k_is); (case l11 => k_is); (case k11 => k_is); (case cc11 => k_is); (case a12 => k_is); (case l12 => k_is); (case k12 => k_is); (case cc12 => k_is); (case a13 => k_is); (case l13 => k_is); (case k13 => k_is); (case cc13 => k_is); (case a14 => k_is); (case l14 => k_is); (case k14 => k_is); (case cc14 => k_is); (case a15 => k_is); (case l15 => k_is); (case k15 => k_is); (case cc15 => k_is); (case a16 => k_is); (case l16 => k_is); (case k16 => k_is); (case cc16 => k_is); (case a17 => k_is); (case l17 => k_is); (case k17 => k_is); (case cc17 => k_is); (case a18 => k_is); (case l18 => k_is); (case k18 => k_is); (case cc18 => k_is); (case a19 => k_is); (case l19 => k_is); (case k19 => k_is); (case cc19 => k_is); (case a20 => k_is); (case l20 => k_is); (case k20 => k_is); (case cc20 => k_is); (case a21 => k_is); (case l21 => k_is); (case k21 => k_is); (case cc21 => k_is); (case a22 => k_is); (case l22 => k_is); (case k22 => k_is); (case cc22 => k_is); (case a23 => k_is); (case l23 => k_is); (case k23 => k_is); (case cc23 => k_is); (case a24 => k_is); (case l24 => k_is); (case k24 => k_is); (case cc24 => k_is); (case m24 => k_is); (case p24 => with_unfolding_all rfl); (case n24 => with_unfolding_all rfl); (case r24 => with_unfolding_all rfl); (case z0 => k_is); (case z1 => k_is); (case z2 => k_is); (case z3 => k_is); (case z4 => k_is); (case z5 => k_is); (case z6 => k_is); (case z7 => k_is); (case z8 => k_is); (case z9 => k_is); (case z10 => k_is); (case z11 => k_is); (case z12 => k_is); (case z13 => k_is); (case z14 => k_is); (case aC => k_is); (case xL => k_is); (case xR => first | rfl | with_unfolding_all rfl | decide +kernel); (case sa => k_is); (case ga => k_is); (case gg => k_is); (case noP => k_is); (case noN => k_is); (case iC => k_is); (case tfI => k_is); (case kC => k_is); (case eC => k_is); (case tyC => k_is); (case hC => k_is); (case isC => k_is); (case sC => first | rfl | k_is); (case opq => k_is); (case sup => ks_is); (case sVE => k_is); (case own => k_is); (case noS => k_is); (case top => first | rfl | with_unfolding_all rfl | decide +kernel); (case lf => k_is); (case lc => k_is); (case lk => k_is); (case lv => first | rfl | with_unfolding_all rfl | decide +kernel); (case lfile => first | rfl | with_unfolding_all rfl | decide +kernel); (case lcell => k_is); (case q0 => k_is); (case q1 => k_is); (case q2 => k_is)
