import PyProof.Rows.All
import PySem.Challenge.RW_surecrossing_k65_whole_mended
import HandS.ForMost
import HandS.Flow
import HandS.Wide
import HandS.TupAny
import HandS.TupMul
import HandS.IsInst
import HandS.NoneIn
import HandS.AnyAll
import HandS.Deep
import HandS.GenList
import PyProof.TupleOfGen
import HandS.EndOwn
import HandS.Style
set_option Elab.async false
set_option linter.all false
set_option maxRecDepth 100000
set_option maxHeartbeats 8000000
namespace SX
open PySem PySem.Spec PyProof.Rows L2

/-! ### data, the store, results -/
inductive D where
  | non | bl (b : Bool) | int (i : Int) | str (x : Str) | tup (ds : List D) | rls (ds : List D) | loc (l : Nat)
inductive SO where
  | lst (ds : List D)
abbrev Store := List SO
abbrev Env := List (Option D)
inductive Res (α : Type) where
  | ok (a : α) (S : Store)
  | bad
def Res.bnd {α β : Type} (r : Res α) (k : α → Store → Res β) : Res β := match r with
  | .ok a S => k a S
  | .bad => .bad
@[simp] theorem bnd_ok {α β : Type} (a : α) (S : Store) (k : α → Store → Res β) : (Res.ok a S).bnd k = k a S := rfl
@[simp] theorem bnd_bad {α β : Type} (k : α → Store → Res β) : (Res.bad : Res α).bnd k = .bad := rfl
theorem bnd_eq_ok {α β : Type} {r : Res α} {k : α → Store → Res β} {b : β} {S' : Store} (h : r.bnd k = .ok b S') : ∃ a S, r = .ok a S ∧ k a S = .ok b S' := by
  cases r with
  | ok a S => exact ⟨a, S, rfl, h⟩
  | bad => cases h

inductive Flow where
  | next | ret (d : D) | brk | cont

/-! ### the language -/
inductive BO where | add | sub | mul | fdiv | mod | pow deriving DecidableEq
inductive CO where | lt | le | gt | ge | eq | ne | isN | notN | isin | notin deriving DecidableEq
/-- a module's constant -/
inductive Cst where | int (i : Int) | strs (xs : List Str) deriving DecidableEq
inductive Pr where | abs | int | len | max | min | tuple | list | any deriving DecidableEq
inductive Ty where | bool | int | str | tuple | list deriving DecidableEq
inductive Mt where | append | pop | reverse deriving DecidableEq
mutual
inductive E where
  | var (i : Nat)
  | cint (i : Int) | cbl (b : Bool) | cnon | cstr (x : Str)
  | tup (es : Es) | lst (es : Es)
  | bin (op : BO) (a b : E)
  | neg (a : E) | not (a : E)
  | and (es : Es) | or (es : Es)
  | cmp (op : CO) (a b : E)
  | ite (c a b : E)
  | idx (a b : E)
  | slc (a : E) (lo hi : E)
  | absent
  | call (f : Nat) (es : Es)
  | callk (f : Nat) (es ks : Es) (perm : List Nat)
  | prim (p : Pr) (es : Es)
  | isin (t : Ty) (a : E)
  | meth (m : Mt) (o : E) (es : Es)
  | lc (elt : E) (t : Tg) (it : It) (cs : Es) (own : List Nat)
  | gcon (x : Str) (k : Cst)
  | chain (op op' : CO) (a b c : E)
  | tupG (elt : E) (t : Tg) (it : It) (cs : Es) (own : List Nat)
  | qual (all : Bool) (elt : E) (t : Tg) (it : It) (cs : Es) (own : List Nat)
  | sumG (elt : E) (t : Tg) (it : It) (cs : Es) (own : List Nat)
  | lc2 (elt : E) (t : Tg) (it : It) (cs : Es) (own : List Nat) (t1 : Tg) (it1 : It) (cs1 : Es) (own1 : List Nat)
inductive Es where
  | nil | cons (e : E) (es : Es)
inductive It where
  | seq (e : E) | range1 (e : E) | range2 (a b : E)
inductive Tg where
  | nm (i : Nat) | tp (ts : Tgs)
inductive Tgs where
  | nil | cons (t : Tg) (ts : Tgs)
end
mutual
inductive St where
  | asg (t : Tg) (e : E)
  | par (is : List Nat) (es : Es)
  | setS (o i v : E)
  | aug (i : Nat) (op : BO) (e : E)
  | augS (o i : E) (op : BO) (e : E)
  | expr (e : E)
  | ret (e : E) | retN
  | ite (c : E) (a b : Ss)
  | wh (c : E) (b : Ss)
  | fo (t : Tg) (it : It) (b : Ss)
  | brk | cont | pass
inductive Ss where
  | nil | cons (s : St) (ss : Ss)
end
def Es.len : Es → Nat
  | .nil => 0
  | .cons _ es => es.len + 1

/-! ### values' operations -/
noncomputable section
open Classical

def LINE : Nat := 16777216
def truD (d : D) (S : Store) : Option Bool := match d with
  | .non => some false
  | .bl b => some b
  | .int i => some (i != 0)
  | .str x => if x.length ≤ LINE then some ((x.length : Int) != 0) else none
  | .tup ds => some (!ds.isEmpty)
  | .rls ds => some (!ds.isEmpty)
  | .loc l => match S[l]? with
    | some (.lst ds) => some (!ds.isEmpty)
    | none => none
def new (S : Store) (o : SO) : Res D := .ok (.loc S.length) (S ++ [o])

def binD (op : BO) (a b : D) (S : Store) : Res D := match op, a, b with
  | .add, .int i, .int j => .ok (.int (i + j)) S
  | .add, .tup xs, .tup ys => if xs.length + ys.length ≤ LINE then .ok (.tup (xs ++ ys)) S else .bad
  | .add, .str x, .str y => if x.length + y.length ≤ LINE then .ok (.str (x ++ y)) S else .bad
  | .add, .loc l, .loc m => match S[l]?, S[m]? with
    | some (.lst xs), some (.lst ys) => if xs.length + ys.length ≤ LINE then new S (.lst (xs ++ ys)) else .bad
    | _, _ => .bad
  | .sub, .int i, .int j => .ok (.int (i - j)) S
  | .mul, .int i, .int j => if CMulW i j ∨ CMul i j then .ok (.int (i * j)) S else .bad
  | .mul, .tup xs, .int k => if xs ≠ [] ∧ 0 ≤ k ∧ k ≤ 1000 ∧ xs.length ≤ 1000 then .ok (.tup (List.replicate k.toNat xs).flatten) S else .bad
  | .fdiv, .int i, .int j => if CDivW i j then .ok (.int (i / j)) S else .bad
  | .mod, .int i, .int j => if 0 < j then .ok (.int (i % j)) S else .bad
  | .pow, .int i, .int j => if CPow i j then .ok (.int (i ^ j.toNat)) S else .bad
  | _, _, _ => .bad

def scalD : D → D → Option Bool
  | .non, .non => some true | .non, .int _ => some false | .int _, .non => some false | .non, .bl _ => some false | .bl _, .non => some false
  | .non, .str _ => some false | .str _, .non => some false
  | .int i, .int j => some (decide (i = j)) | .bl i, .bl j => some (decide (i = j)) | .str i, .str j => some (decide (i = j))
  | .int _, .str _ => some false | .str _, .int _ => some false | .bl _, .str _ => some false | .str _, .bl _ => some false
  | _, _ => none
mutual
/-- plain data (as the library's) -/
def pyD : D → Option PyData
  | .non => some .none
  | .bl b => some (.bool b)
  | .int i => some (.int i)
  | .str x => some (.str x)
  | .tup ds => (pyDs ds).map .tuple
  | .rls ds => (pyDs ds).map .list
  | .loc _ => none
def pyDs : List D → Option (List PyData)
  | [] => some []
  | d :: ds => match pyD d, pyDs ds with
    | some x, some xs => some (x :: xs)
    | _, _ => none
end
/-- a list of plain data, or plain data -/
def pyT (d : D) (S : Store) : Option PyData := match d with
  | .loc l => match S[l]? with
    | some (.lst ds) => (pyDs ds).map .list
    | none => none
  | d => pyD d
def eqD (a b : D) (S : Store) : Option Bool := match scalD a b with
  | some r => some r
  | none => match pyT a S, pyT b S with
    | some x, some y => if SeqAt.shaped x = true ∧ SeqAt.shaped y = true then some (PyData.eqv x y) else none
    | _, _ => none
def Cst.toD : Cst → D
  | .int i => .int i
  | .strs xs => .tup (xs.map .str)

/-- a in b -/
def inD (a b : D) (S : Store) : Option Bool := match pyT a S, pyT b S with
  | some x, some (.list ys) => if SeqAt.shaped x = true ∧ SeqAt.shaped (.list ys) = true then some (ys.any fun z => PyData.eqv z x) else none
  | some x, some (.tuple ys) => if SeqAt.shaped x = true ∧ SeqAt.shaped (.tuple ys) = true then some (ys.any fun z => PyData.eqv z x) else none
  | _, _ => none
def isNonD : D → Bool
  | .non => true
  | _ => false
def cmpD (op : CO) (a b : D) (S : Store) : Option Bool := match op, a, b with
  | .lt, .int i, .int j => some (decide (i < j))
  | .le, .int i, .int j => some (decide (i ≤ j))
  | .gt, .int i, .int j => some (decide (j < i))
  | .ge, .int i, .int j => some (decide (j ≤ i))
  | .eq, a, b => eqD a b S
  | .ne, a, b => (eqD a b S).map (!·)
  | .isN, a, .non => some (isNonD a)
  | .notN, a, .non => some (!isNonD a)
  | .isin, a, b => inD a b S
  | .notin, a, b => (inD a b S).map (!·)
  | _, _, _ => none
def ofB (o : Option Bool) (S : Store) : Res D := match o with
  | some b => .ok (.bl b) S
  | none => .bad
def seqD (d : D) (S : Store) : Option (List D) := match d with
  | .tup ds => some ds
  | .rls ds => some ds
  | .loc l => match S[l]? with
    | some (.lst ds) => some ds
    | none => none
  | _ => none
def okV (o : Option D) (S : Store) : Res D := match o with
  | some d => .ok d S
  | none => .bad
def idxD (a b : D) (S : Store) : Res D := match seqD a S, b with
  | some ds, .int i => okV (atI ds i) S
  | _, _ => .bad
/-- of a list that may be changed -/
def idxM (a b : D) (S : Store) : Res D := match a with
  | .loc l => idxD (.loc l) b S
  | _ => .bad
def cutD (xs : List D) (lo hi : Option Int) : List D := (xs.drop (HT.sIx xs.length 0 lo)).take (HT.sIx xs.length xs.length hi - HT.sIx xs.length 0 lo)
def slcD (a : D) (lo hi : Option Int) (S : Store) : Res D := match a with
  | .tup ds => .ok (.tup (cutD ds lo hi)) S
  | .rls ds => new S (.lst (cutD ds lo hi))
  | .loc l => match S[l]? with
    | some (.lst ds) => new S (.lst (cutD ds lo hi))
    | none => .bad
  | _ => .bad
def allBl : List D → Option (List Bool)
  | [] => some []
  | .bl b :: ds => (allBl ds).map (b :: ·)
  | _ => none
def pAbs (ds : List D) (S : Store) : Res D := match ds with
  | [.int i] => .ok (.int (if i < 0 then -i else i)) S
  | _ => .bad
def pInt (ds : List D) (S : Store) : Res D := match ds with
  | [.int i] => .ok (.int i) S
  | [.bl b] => .ok (.int (if b then 1 else 0)) S
  | _ => .bad
def pLen (ds : List D) (S : Store) : Res D := match ds with
  | [.str x] => if x.length ≤ LINE then .ok (.int x.length) S else .bad
  | [d] => match seqD d S with
    | some ds => .ok (.int ds.length) S
    | none => .bad
  | _ => .bad
def pMax (ds : List D) (S : Store) : Res D := match ds with
  | [.int i, .int j] => .ok (.int (if j > i then j else i)) S
  | _ => .bad
def pMin (ds : List D) (S : Store) : Res D := match ds with
  | [.int i, .int j] => .ok (.int (if j < i then j else i)) S
  | _ => .bad
def pTuple (ds : List D) (S : Store) : Res D := match ds with
  | [.tup ds] => .ok (.tup ds) S
  | [d] => match seqD d S with
    | some ds => .ok (.tup ds) S
    | none => .bad
  | _ => .bad
def pList (ds : List D) (S : Store) : Res D := match ds with
  | [d] => match seqD d S with
    | some ds => new S (.lst ds)
    | none => .bad
  | _ => .bad
def pAny (ds : List D) (S : Store) : Res D := match ds with
  | [.loc l] => match S[l]? with
    | some (.lst ds) => ofB ((allBl ds).map (·.any id)) S
    | none => .bad
  | _ => .bad
def primD (p : Pr) (ds : List D) (S : Store) : Res D := match p with
  | .abs => pAbs ds S
  | .int => pInt ds S
  | .len => pLen ds S
  | .max => pMax ds S
  | .min => pMin ds S
  | .tuple => pTuple ds S
  | .list => pList ds S
  | .any => pAny ds S
inductive Kd where | non | bl | int | str | tup | lst deriving DecidableEq
def kdD : D → Kd
  | .non => .non | .bl _ => .bl | .int _ => .int | .str _ => .str | .tup _ => .tup | .rls _ => .lst | .loc _ => .lst
def isK (t : Ty) (k : Kd) : Bool := match t, k with
  | .bool, .bl => true
  | .int, .bl => true
  | .int, .int => true
  | .str, .str => true
  | .tuple, .tup => true
  | .list, .lst => true
  | _, _ => false
def isD (t : Ty) (d : D) : Option Bool := some (isK t (kdD d))
def mApp (o : D) (ds : List D) (S : Store) : Res D := match o, ds with
  | .loc l, [d] => match S[l]? with
    | some (.lst xs) => if xs.length < LINE then .ok .non (S.set l (.lst (xs ++ [d]))) else .bad
    | none => .bad
  | _, _ => .bad
def mPop (o : D) (ds : List D) (S : Store) : Res D := match o, ds with
  | .loc l, [] => match S[l]? with
    | some (.lst xs) => match xs[xs.length - 1]? with
      | some d => .ok d (S.set l (.lst xs.dropLast))
      | none => .bad
    | none => .bad
  | .loc l, [.int i] => match S[l]? with
    | some (.lst xs) => match ixN xs.length i with
      | some k => match xs[k]? with
        | some d => .ok d (S.set l (.lst (xs.eraseIdx k)))
        | none => .bad
      | none => .bad
    | none => .bad
  | _, _ => .bad
def mRev (o : D) (ds : List D) (S : Store) : Res D := match o, ds with
  | .loc l, [] => match S[l]? with
    | some (.lst xs) => .ok .non (S.set l (.lst xs.reverse))
    | none => .bad
  | _, _ => .bad
def methD (m : Mt) (o : D) (ds : List D) (S : Store) : Res D := match m with
  | .append => mApp o ds S
  | .pop => mPop o ds S
  | .reverse => mRev o ds S
/-- the receiver, ahead of the arguments -/
def recvOk (m : Mt) (o : D) (S : Store) : Bool := match o with
  | .loc l => match S[l]? with
    | some (.lst _) => true
    | none => false
  | _ => false
def setD (o i v : D) (S : Store) : Res Unit := match o, i with
  | .loc l, .int k => match S[l]? with
    | some (.lst xs) => match ixN xs.length k with
      | some j => .ok () (S.set l (.lst (xs.set j v)))
      | none => .bad
    | none => .bad
  | _, _ => .bad

structure R62 (n : Int) : Prop where
  lo : -(2 ^ 62) ≤ n
  hi : n < 2 ^ 62
/-! ### targets -/
mutual
def asgT : Tg → D → Store → Env → Option Env
  | .nm i, d, _, env => some (env.set i (some d))
  | .tp ts, d, S, env => match d with
    | .tup ds => asgTs ts ds S env
    | _ => none
def asgTs : Tgs → List D → Store → Env → Option Env
  | .nil, [], _, env => some env
  | .cons t ts, d :: ds, S, env => match asgT t d S env with
    | some env1 => asgTs ts ds S env1
    | none => none
  | _, _, _, _ => none
end
def wipeE (env : Env) : List Nat → Env
  | [] => env
  | v :: vs => (wipeE env vs).set v none
def setAll (env : Env) : List Nat → List D → Option Env
  | [], [] => some env
  | i :: is, d :: ds => setAll (env.set i (some d)) is ds
  | _, _ => none

/-! ### loops -/
/-- what is walked: the items; the list at l must stay as it is -/
structure Walk where
  items : List D
  guard : Option Nat
def Walk.here (w : Walk) (S : Store) : Prop := match w.guard with
  | none => True
  | some l => S[l]? = some (.lst w.items)
def forL (w : Walk) (t : Tg) (body : Env → Store → Res (Flow × Env)) : List D → Env → Store → Res (Flow × Env)
  | [], env, S => if w.here S then .ok (.next, env) S else .bad
  | d :: ds, env, S => if w.here S then
      match asgT t d S env with
      | some env1 => (body env1 S).bnd fun r S1 => match r.1 with
        | .next => forL w t body ds r.2 S1
        | .cont => forL w t body ds r.2 S1
        | .brk => .ok (.next, r.2) S1
        | .ret d => .ok (.ret d, r.2) S1
      | none => .bad
    else .bad
def lcL (w : Walk) (t : Tg) (env : Env) (own : List Nat) (tst : Env → Store → Res Bool) (elt : Env → Store → Res D) : List D → List D → Store → Res (List D)
  | [], acc, S => if w.here S then .ok acc S else .bad
  | d :: ds, acc, S => if w.here S then
      match asgT t d S (wipeE env own) with
      | some env1 => (tst env1 S).bnd fun b S1 =>
        if b = true then (elt env1 S1).bnd fun x S2 => if acc.length < LINE then lcL w t env own tst elt ds (acc ++ [x]) S2 else .bad
        else lcL w t env own tst elt ds acc S1
      | none => .bad
    else .bad
def R63 (n : Int) : Prop := -(2 ^ 63) ≤ n ∧ n < 2 ^ 63
/-- any (all = false), all (all = true) of bools -/
def qlL (all : Bool) (w : Walk) (t : Tg) (env : Env) (own : List Nat) (tst : Env → Store → Res Bool) (elt : Env → Store → Res D) : List D → Store → Res D
  | [], S => if w.here S then .ok (.bl all) S else .bad
  | d :: ds, S => if w.here S then
      match asgT t d S (wipeE env own) with
      | some env1 => (tst env1 S).bnd fun b S1 =>
        if b = true then (elt env1 S1).bnd fun x S2 => match x with
          | .bl r => if r = all then qlL all w t env own tst elt ds S2 else .ok (.bl r) S2
          | _ => .bad
        else qlL all w t env own tst elt ds S1
      | none => .bad
    else .bad
def smL (w : Walk) (t : Tg) (env : Env) (own : List Nat) (tst : Env → Store → Res Bool) (elt : Env → Store → Res D) : List D → Int → Store → Res D
  | [], acc, S => if w.here S then .ok (.int acc) S else .bad
  | d :: ds, acc, S => if w.here S then
      match asgT t d S (wipeE env own) with
      | some env1 => (tst env1 S).bnd fun b S1 =>
        if b = true then (elt env1 S1).bnd fun x S2 => match x with
          | .int r => if R63 r ∧ R63 (acc + r) then smL w t env own tst elt ds (acc + r) S2 else .bad
          | _ => .bad
        else smL w t env own tst elt ds acc S1
      | none => .bad
    else .bad
def lc2L (w : Walk) (t : Tg) (env : Env) (own : List Nat) (tst : Env → Store → Res Bool) (inner : Env → List D → Store → Res (List D)) : List D → List D → Store → Res (List D)
  | [], acc, S => if w.here S then .ok acc S else .bad
  | d :: ds, acc, S => if w.here S then
      match asgT t d S (wipeE env own) with
      | some env1 => (tst env1 S).bnd fun b S1 =>
        if b = true then (inner env1 acc S1).bnd fun acc1 S2 => lc2L w t env own tst inner ds acc1 S2
        else lc2L w t env own tst inner ds acc S1
      | none => .bad
    else .bad
def whN (c : Env → Store → Res Bool) (body : Env → Store → Res (Flow × Env)) : Nat → Env → Store → Res (Flow × Env)
  | 0, _, _ => .bad
  | n + 1, env, S => (c env S).bnd fun b S1 =>
      if b = true then (body env S1).bnd fun r S2 => match r.1 with
        | .next => whN c body n r.2 S2
        | .cont => whN c body n r.2 S2
        | .brk => .ok (.next, r.2) S2
        | .ret d => .ok (.ret d, r.2) S2
      else .ok (.next, env) S1
def whL (c : Env → Store → Res Bool) (body : Env → Store → Res (Flow × Env)) (env : Env) (S : Store) : Res (Flow × Env) :=
  if h : ∃ n, whN c body n env S ≠ .bad then whN c body (choose h) env S else .bad

/-! ### evaluation -/
abbrev Fns := Nat → List D → Store → Res D
def truR (r : Res D) : Res Bool := r.bnd fun d S => match truD d S with
  | some b => .ok b S
  | none => .bad
def optI (r : Res D) : Res (Option Int) := r.bnd fun d S => match d with
  | .int i => .ok (some i) S
  | _ => .bad
def isAbs : E → Bool
  | .absent => true
  | _ => false
def permD (perm : List Nat) (ds : List D) : List D := perm.filterMap fun i => ds[i]?
mutual
def evE (F : Fns) : E → Env → Store → Res D
  | .var i, env, S => match env[i]? with
    | some (some d) => .ok d S
    | _ => .bad
  | .cint i, _, S => .ok (.int i) S
  | .cbl b, _, S => .ok (.bl b) S
  | .cnon, _, S => .ok .non S
  | .cstr x, _, S => .ok (.str x) S
  | .tup es, env, S => (evEs F es env S).bnd fun ds S1 => if ds.length ≤ LINE then .ok (.tup ds) S1 else .bad
  | .lst es, env, S => (evEs F es env S).bnd fun ds S1 => if ds.length ≤ LINE then new S1 (.lst ds) else .bad
  | .bin op a b, env, S => (evE F a env S).bnd fun x S1 => (evE F b env S1).bnd fun y S2 => binD op x y S2
  | .neg a, env, S => (evE F a env S).bnd fun x S1 => match x with
    | .int i => .ok (.int (-i)) S1
    | _ => .bad
  | .not a, env, S => (truR (evE F a env S)).bnd fun b S1 => .ok (.bl (!b)) S1
  | .and es, env, S => evAnd F es env S
  | .or es, env, S => evOr F es env S
  | .cmp op a b, env, S => (evE F a env S).bnd fun x S1 => (evE F b env S1).bnd fun y S2 => ofB (cmpD op x y S2) S2
  | .ite c a b, env, S => (truR (evE F c env S)).bnd fun k S1 => if k = true then evE F a env S1 else evE F b env S1
  | .idx a b, env, S => (evE F a env S).bnd fun x S1 => (evE F b env S1).bnd fun y S2 => idxD x y S2
  | .slc a lo hi, env, S => (evE F a env S).bnd fun x S1 =>
      (if isAbs lo = true then .ok none S1 else optI (evE F lo env S1)).bnd fun l S2 =>
      (if isAbs hi = true then .ok none S2 else optI (evE F hi env S2)).bnd fun h S3 => slcD x l h S3
  | .absent, _, _ => .bad
  | .call f es, env, S => (evEs F es env S).bnd fun ds S1 => F f ds S1
  | .callk f es ks perm, env, S => (evEs F es env S).bnd fun ds S1 => (evEs F ks env S1).bnd fun zs S2 => F f (permD perm (ds ++ zs)) S2
  | .prim p es, env, S => (evEs F es env S).bnd fun ds S1 => primD p ds S1
  | .isin t a, env, S => (evE F a env S).bnd fun x S1 => ofB (isD t x) S1
  | .meth m o es, env, S => (evE F o env S).bnd fun x S1 => if recvOk m x S1 = true then (evEs F es env S1).bnd fun ds S2 => methD m x ds S2 else .bad
  | .lc elt t it cs own, env, S => (evIt F it env S).bnd fun w S1 =>
      (lcL w t env own (fun e s => evTs F cs e s) (fun e s => evE F elt e s) w.items [] S1).bnd fun ds S2 => new S2 (.lst ds)
  | .gcon _ k, _, S => .ok k.toD S
  | .chain op op' a b c, env, S => (evE F a env S).bnd fun x S1 => (evE F b env S1).bnd fun y S2 => (ofB (cmpD op x y S2) S2).bnd fun r S3 => match r with
    | .bl true => (evE F c env S3).bnd fun z S4 => ofB (cmpD op' y z S4) S4
    | r => .ok r S3
  | .tupG elt t it cs own, env, S => (evIt F it env S).bnd fun w S1 =>
      (lcL w t env own (fun e s => evTs F cs e s) (fun e s => evE F elt e s) w.items [] S1).bnd fun ds S2 => .ok (.tup ds) S2
  | .qual all elt t it cs own, env, S => (evIt F it env S).bnd fun w S1 =>
      qlL all w t env own (fun e s => evTs F cs e s) (fun e s => evE F elt e s) w.items S1
  | .sumG elt t it cs own, env, S => (evIt F it env S).bnd fun w S1 =>
      smL w t env own (fun e s => evTs F cs e s) (fun e s => evE F elt e s) w.items 0 S1
  | .lc2 elt t it cs own t1 it1 cs1 own1, env, S => (evIt F it env S).bnd fun w S1 =>
      (lc2L w t env own (fun e s => evTs F cs e s) (fun e acc s => (evIt F it1 e s).bnd fun w1 s1 => lcL w1 t1 e own1 (fun e s => evTs F cs1 e s) (fun e s => evE F elt e s) w1.items acc s1) w.items [] S1).bnd fun ds S2 => new S2 (.lst ds)
def evEs (F : Fns) : Es → Env → Store → Res (List D)
  | .nil, _, S => .ok [] S
  | .cons e es, env, S => (evE F e env S).bnd fun d S1 => (evEs F es env S1).bnd fun ds S2 => .ok (d :: ds) S2
def evAnd (F : Fns) : Es → Env → Store → Res D
  | .nil, _, _ => .bad
  | .cons e .nil, env, S => evE F e env S
  | .cons e es, env, S => (evE F e env S).bnd fun d S1 => match truD d S1 with
    | some true => evAnd F es env S1
    | some false => .ok d S1
    | none => .bad
def evOr (F : Fns) : Es → Env → Store → Res D
  | .nil, _, _ => .bad
  | .cons e .nil, env, S => evE F e env S
  | .cons e es, env, S => (evE F e env S).bnd fun d S1 => match truD d S1 with
    | some false => evOr F es env S1
    | some true => .ok d S1
    | none => .bad
/-- a comprehension's tests: none, or one -/
def evTs (F : Fns) : Es → Env → Store → Res Bool
  | .nil, _, S => .ok true S
  | .cons e _, env, S => truR (evE F e env S)
def evIt (F : Fns) : It → Env → Store → Res Walk
  | .seq e, env, S => (evE F e env S).bnd fun d S1 => match d with
    | .tup ds => .ok ⟨ds, none⟩ S1
    | .rls ds => .ok ⟨ds, none⟩ S1
    | .loc l => match S1[l]? with
      | some (.lst ds) => .ok ⟨ds, some l⟩ S1
      | none => .bad
    | _ => .bad
  | .range1 e, env, S => (evE F e env S).bnd fun d S1 => match d with
    | .int n => if R62 n then .ok ⟨(List.range n.toNat).map fun (k : Nat) => .int (0 + (k : Int)), none⟩ S1 else .bad
    | _ => .bad
  | .range2 a b, env, S => (evE F a env S).bnd fun x S1 => (evE F b env S1).bnd fun y S2 => match x, y with
    | .int i, .int j => if R62 i ∧ R62 j then .ok ⟨(List.range (j - i).toNat).map fun (k : Nat) => .int (i + (k : Int)), none⟩ S2 else .bad
    | _, _ => .bad
end
def augD (op : BO) (x y : D) : Option D := match op, x, y with
  | .add, .int a, .int b => some (.int (a + b))
  | .sub, .int a, .int b => some (.int (a - b))
  | _, _, _ => none
mutual
def exS (F : Fns) : St → Env → Store → Res (Flow × Env)
  | .asg t e, env, S => (evE F e env S).bnd fun d S1 => match asgT t d S1 env with
    | some env1 => .ok (.next, env1) S1
    | none => .bad
  | .par is es, env, S => (evEs F es env S).bnd fun ds S1 => match setAll env is ds with
    | some env1 => .ok (.next, env1) S1
    | none => .bad
  | .setS o i v, env, S => (evE F v env S).bnd fun x S1 => (evE F o env S1).bnd fun y S2 => (evE F i env S2).bnd fun z S3 => (setD y z x S3).bnd fun _ S4 => .ok (.next, env) S4
  | .aug i op e, env, S => match env[i]? with
    | some (some x) => (evE F e env S).bnd fun y S1 => match augD op x y with
      | some z => .ok (.next, env.set i (some z)) S1
      | none => .bad
    | _ => .bad
  | .augS o i op e, env, S => (evE F o env S).bnd fun y S1 => (evE F i env S1).bnd fun z S2 => (idxM y z S2).bnd fun x S3 => (evE F e env S3).bnd fun d S4 => match augD op x d with
    | some r => (setD y z r S4).bnd fun _ S5 => .ok (.next, env) S5
    | none => .bad
  | .expr e, env, S => (evE F e env S).bnd fun _ S1 => .ok (.next, env) S1
  | .ret e, env, S => (evE F e env S).bnd fun d S1 => .ok (.ret d, env) S1
  | .retN, env, S => .ok (.ret .non, env) S
  | .ite c a b, env, S => (truR (evE F c env S)).bnd fun k S1 => if k = true then exSs F a env S1 else exSs F b env S1
  | .wh c b, env, S => whL (fun e s => truR (evE F c e s)) (fun e s => exSs F b e s) env S
  | .fo t it b, env, S => (evIt F it env S).bnd fun w S1 => forL w t (fun e s => exSs F b e s) w.items env S1
  | .brk, env, S => .ok (.brk, env) S
  | .cont, env, S => .ok (.cont, env) S
  | .pass, env, S => .ok (.next, env) S
def exSs (F : Fns) : Ss → Env → Store → Res (Flow × Env)
  | .nil, env, S => .ok (.next, env) S
  | .cons s ss, env, S => (exS F s env S).bnd fun r S1 => match r.1 with
    | .next => exSs F ss r.2 S1
    | f => .ok (f, r.2) S1
end

/-! ### defs -/
structure Fd where
  np : Nat
  ns : Nat
  body : Ss
  pure : Bool
mutual
def clD (n : Nat) : D → Bool
  | .loc l => decide (l < n)
  | .tup ds => clDs n ds
  | .rls ds => clDs n ds
  | _ => true
def clDs (n : Nat) : List D → Bool
  | [] => true
  | d :: ds => clD n d && clDs n ds
end
def clO (n : Nat) : SO → Bool
  | .lst ds => clDs n ds
/-- what is younger than n may be forgotten -/
def Cuts (S S1 : Store) : Prop := S.length ≤ S1.length ∧ ∀ j, j < S.length → S1[j]? = S[j]? ∨ ∃ o, S1[j]? = some o ∧ clO S.length o = true
def endF (fd : Fd) (S : Store) (r : Res (Flow × Env)) : Res D := r.bnd fun r S1 =>
  match r.1 with
  | .ret d => if fd.pure = true then (if Cuts S S1 ∧ clD S.length d = true then .ok d (S1.take S.length) else .bad) else .ok d S1
  | .next => if fd.pure = true then (if Cuts S S1 then .ok .non (S1.take S.length) else .bad) else .ok .non S1
  | _ => .bad
abbrev Prg := Nat → Option Fd
def callN (P : Prg) : Nat → Fns
  | 0, _, _, _ => .bad
  | n + 1, f, ds, S => match P f with
    | none => .bad
    | some fd => if ds.length = fd.np ∧ fd.np ≤ fd.ns then endF fd S (exSs (callN P n) fd.body (ds.map some ++ List.replicate (fd.ns - fd.np) none) S) else .bad
end
end SX
namespace SX
open PySem PySem.Spec PyProof.Rows L2
noncomputable section
open Classical

theorem line_eq : LINE = sizeLine := by rw [sizeLine_eq]; rfl

/-! ### data in the heap -/
def RoL (K : PySem.W.Frag) (H : Hp) (a : Addr) (xs : List V) : Prop :=
  (∃ o, H a = some (.frz o (.lst xs))) ∨
    ∃ (o : Obj) (its : Array Value) (n : Nat), K.lookup a = some o ∧ o.cls = .type "list" ∧ o.dict = none ∧ o.data = .seq its n ∧ its.size ≤ sizeLine ∧ Vals xs its.toList
theorem RoL.seq {K : PySem.W.Frag} {H : Hp} {a : Addr} {xs : List V} (h : RoL K H a xs) : SqL K H a xs := by
  rcases h with h | h
  · exact .inl (.inr h)
  · exact .inr h
mutual
def Rep (K : PySem.W.Frag) (ι : List Addr) (H : Hp) : D → V → Prop
  | .non, v => v = .non
  | .bl b, v => v = .bl b
  | .int i, v => v = .int i
  | .str x, v => v = .str x
  | .tup ds, v => ∃ a xs, v = .ref a ∧ SqT K H a xs ∧ Reps K ι H ds xs
  | .rls ds, v => ∃ a xs, v = .ref a ∧ RoL K H a xs ∧ Reps K ι H ds xs
  | .loc l, v => ∃ a, v = .ref a ∧ ι[l]? = some a
def Reps (K : PySem.W.Frag) (ι : List Addr) (H : Hp) : List D → List V → Prop
  | [], vs => vs = []
  | d :: ds, vs => ∃ v r, vs = v :: r ∧ Rep K ι H d v ∧ Reps K ι H ds r
end
def RepO (K : PySem.W.Frag) (ι : List Addr) (H : Hp) (a : Addr) : SO → Prop
  | .lst ds => ∃ xs, H a = some (.lst xs) ∧ Reps K ι H ds xs
/-- the defs' code objects and their tables -/
class Tabs where
  cs : List (Addr × Addr)
variable [Tabs]
structure SR (K : PySem.W.Frag) (ι : List Addr) (S : Store) (H : Hp) : Prop where
  nd : ι.Nodup
  len : ι.length = S.length
  at_ : ∀ (l : Nat) (o : SO) (a : Addr), S[l]? = some o → ι[l]? = some a → RepO K ι H a o
  tb : ∀ p ∈ Tabs.cs, GxR.TabG H p.2
def REnv (K : PySem.W.Frag) (ι : List Addr) (H : Hp) (env : Env) (σ : L2.St) : Prop :=
  env.length = σ.length ∧ ∀ (i : Nat) (d : D), env[i]? = some (some d) → ∃ v, σ[i]? = some (some v) ∧ Rep K ι H d v
structure Mono (ι : List Addr) (H : Hp) (ι' : List Addr) (H' : Hp) : Prop where
  pre : ∃ t, ι' = ι ++ t
  tup : ∀ a xs, H a = some (.tup xs) → H' a = some (.tup xs)
  frz : ∀ a o u, H a = some (.frz o u) → H' a = some (.frz o u)
structure Step (ι : List Addr) (H : Hp) (ι' : List Addr) (H' : Hp) : Prop extends Mono ι H ι' H' where
  keep : ∀ a o, H a = some o → a ∉ ι → (∀ ps, o ≠ .tbl ps) → H' a = some o
  tabs : ∀ a ps, H a = some (.tbl ps) → ∃ ps', H' a = some (.tbl ps') ∧ (TriplesOk ps.toList → TriplesOk ps'.toList)
  new : ∀ a, a ∈ ι' → a ∉ ι → H a = none

section
variable {K : PySem.W.Frag} {ι ι' ι'' : List Addr} {H H' H'' : Hp}
theorem Step.refl : Step ι H ι H := ⟨⟨⟨[], by simp⟩, fun _ _ h => h, fun _ _ _ h => h⟩, fun _ _ h _ _ => h, fun _ ps h => ⟨ps, h, id⟩, fun _ h n => absurd h n⟩
theorem Step.trans (a : Step ι H ι' H') (b : Step ι' H' ι'' H'') : Step ι H ι'' H'' where
  pre := by
    obtain ⟨t, e⟩ := a.pre
    obtain ⟨u, f⟩ := b.pre
    exact ⟨t ++ u, by rw [f, e, List.append_assoc]⟩
  tup := fun c xs h => b.tup c xs (a.tup c xs h)
  frz := fun c o u h => b.frz c o u (a.frz c o u h)
  tabs := fun c ps h => by
    obtain ⟨ps1, h1, t1⟩ := a.tabs c ps h
    obtain ⟨ps2, h2, t2⟩ := b.tabs c ps1 h1
    exact ⟨ps2, h2, fun z => t2 (t1 z)⟩
  keep := fun c o h n nt => by
    refine b.keep c o (a.keep c o h n nt) (fun z => ?_) nt
    have q := a.new c z n
    rw [h] at q
    cases q
  new := fun c h n => by
    by_cases hc : c ∈ ι'
    · exact a.new c hc n
    · have q := b.new c h hc
      cases e : H c with
      | none => rfl
      | some o =>
        by_cases ht : ∃ ps, o = .tbl ps
        · obtain ⟨ps, rfl⟩ := ht
          obtain ⟨ps', h', _⟩ := a.tabs c ps e
          rw [h'] at q
          cases q
        · rw [a.keep c o e n fun ps z => ht ⟨ps, z⟩] at q
          cases q
theorem Mono.get (s : Mono ι H ι' H') {l : Nat} {a : Addr} (h : ι[l]? = some a) : ι'[l]? = some a := by
  obtain ⟨t, e⟩ := s.pre
  rw [e, List.getElem?_append_left (List.getElem?_eq_some_iff.mp h).1]
  exact h
theorem Mono.sqT (s : Mono ι H ι' H') {a : Addr} {xs : List V} (h : SqT K H a xs) : SqT K H' a xs := by
  rcases h with (h | ⟨o, h⟩) | h
  · exact .inl (.inl (s.tup _ _ h))
  · exact .inl (.inr ⟨o, s.frz _ _ _ h⟩)
  · exact .inr h
theorem Mono.roL (s : Mono ι H ι' H') {a : Addr} {xs : List V} (h : RoL K H a xs) : RoL K H' a xs := by
  rcases h with ⟨o, h⟩ | h
  · exact .inl ⟨o, s.frz _ _ _ h⟩
  · exact .inr h
mutual
theorem Rep.mono (s : Mono ι H ι' H') : ∀ (d : D) (v : V), Rep K ι H d v → Rep K ι' H' d v
  | .non, v, h => by unfold Rep at h ⊢; exact h
  | .bl b, v, h => by unfold Rep at h ⊢; exact h
  | .int i, v, h => by unfold Rep at h ⊢; exact h
  | .str x, v, h => by unfold Rep at h ⊢; exact h
  | .tup ds, v, h => by
    unfold Rep at h ⊢
    obtain ⟨a, xs, e, q, r⟩ := h
    exact ⟨a, xs, e, s.sqT q, Reps.mono s ds xs r⟩
  | .rls ds, v, h => by
    unfold Rep at h ⊢
    obtain ⟨a, xs, e, q, r⟩ := h
    exact ⟨a, xs, e, s.roL q, Reps.mono s ds xs r⟩
  | .loc l, v, h => by
    unfold Rep at h ⊢
    obtain ⟨a, e, q⟩ := h
    exact ⟨a, e, s.get q⟩
theorem Reps.mono (s : Mono ι H ι' H') : ∀ (ds : List D) (vs : List V), Reps K ι H ds vs → Reps K ι' H' ds vs
  | [], vs, h => by unfold Reps at h ⊢; exact h
  | d :: ds, vs, h => by
    unfold Reps at h ⊢
    obtain ⟨v, r, e, h1, h2⟩ := h
    exact ⟨v, r, e, Rep.mono s d v h1, Reps.mono s ds r h2⟩
end
theorem Rep.step (s : Step ι H ι' H') (d : D) (v : V) (h : Rep K ι H d v) : Rep K ι' H' d v := Rep.mono s.toMono d v h
theorem Reps.step (s : Step ι H ι' H') (ds : List D) (vs : List V) (h : Reps K ι H ds vs) : Reps K ι' H' ds vs := Reps.mono s.toMono ds vs h
theorem REnv.step (s : Step ι H ι' H') {env : Env} {σ : L2.St} (h : REnv K ι H env σ) : REnv K ι' H' env σ :=
  ⟨h.1, fun i d e => let ⟨v, e1, r⟩ := h.2 i d e; ⟨v, e1, Rep.step s d v r⟩⟩
theorem REnv.set {env : Env} {σ : L2.St} (h : REnv K ι H env σ) {i : Nat} {d : D} {v : V} (r : Rep K ι H d v) : REnv K ι H (env.set i (some d)) (σ.set i (some v)) := by
  refine ⟨by rw [List.length_set, List.length_set]; exact h.1, fun j e hj => ?_⟩
  by_cases hij : i = j
  · subst hij
    by_cases hl : i < env.length
    · rw [List.getElem?_set_self hl] at hj
      have e1 : d = e := Option.some.inj (Option.some.inj hj)
      subst e1
      exact ⟨v, by rw [List.getElem?_set_self (by rw [← h.1]; exact hl)], r⟩
    · rw [List.getElem?_eq_none (by rw [List.length_set]; omega)] at hj
      cases hj
  · rw [List.getElem?_set_ne hij] at hj
    obtain ⟨w, e1, r1⟩ := h.2 j e hj
    exact ⟨w, by rw [List.getElem?_set_ne hij]; exact e1, r1⟩
theorem REnv.wiped {env : Env} {σ : L2.St} (h : REnv K ι H env σ) : ∀ (vs : List Nat), REnv K ι H (wipeE env vs) (L2.wipe σ vs)
  | [] => h
  | v :: vs => by
    have ih := REnv.wiped h vs
    unfold wipeE L2.wipe
    refine ⟨by rw [List.length_set, List.length_set]; exact ih.1, fun j e hj => ?_⟩
    by_cases hij : v = j
    · subst hij
      by_cases hl : v < (wipeE env vs).length
      · rw [List.getElem?_set_self hl] at hj
        cases hj
      · rw [List.getElem?_eq_none (by rw [List.length_set]; omega)] at hj
        cases hj
    · rw [List.getElem?_set_ne hij] at hj ⊢
      exact ih.2 j e hj

/-! ### lists of data -/
theorem Reps.len : ∀ {ds : List D} {vs : List V}, Reps K ι H ds vs → ds.length = vs.length
  | [], vs, h => by unfold Reps at h; rw [h]; rfl
  | d :: ds, vs, h => by
    unfold Reps at h
    obtain ⟨v, r, e, h1, h2⟩ := h
    rw [e, List.length_cons, List.length_cons, Reps.len h2]
theorem Reps.cons {d : D} {ds : List D} {v : V} {vs : List V} (h1 : Rep K ι H d v) (h2 : Reps K ι H ds vs) : Reps K ι H (d :: ds) (v :: vs) := by
  unfold Reps
  exact ⟨v, vs, rfl, h1, h2⟩
theorem Reps.nil : Reps K ι H [] [] := by unfold Reps; rfl
theorem Reps.uncons {d : D} {ds : List D} {vs : List V} (h : Reps K ι H (d :: ds) vs) : ∃ v r, vs = v :: r ∧ Rep K ι H d v ∧ Reps K ι H ds r := by
  unfold Reps at h
  exact h
theorem Reps.unnil {vs : List V} (h : Reps K ι H [] vs) : vs = [] := by
  unfold Reps at h
  exact h
theorem Reps.get : ∀ {ds : List D} {vs : List V} {i : Nat} {d : D}, Reps K ι H ds vs → ds[i]? = some d → ∃ v, vs[i]? = some v ∧ Rep K ι H d v
  | [], _, _, _, _, e => by simp at e
  | d :: ds, vs, 0, x, h, e => by
    obtain ⟨v, r, e1, h1, _⟩ := h.uncons
    rw [e1]
    have e2 : d = x := Option.some.inj e
    rw [← e2]
    exact ⟨v, rfl, h1⟩
  | d :: ds, vs, i + 1, x, h, e => by
    obtain ⟨v, r, e1, _, h2⟩ := h.uncons
    rw [e1]
    exact Reps.get (i := i) h2 e
theorem Reps.append : ∀ {ds es : List D} {vs ws : List V}, Reps K ι H ds vs → Reps K ι H es ws → Reps K ι H (ds ++ es) (vs ++ ws)
  | [], _, _, _, h, h2 => by rw [h.unnil]; exact h2
  | d :: ds, _, _, _, h, h2 => by
    obtain ⟨v, r, e1, h1, h3⟩ := h.uncons
    rw [e1]
    exact Reps.cons h1 (Reps.append h3 h2)
theorem Reps.take : ∀ (n : Nat) {ds : List D} {vs : List V}, Reps K ι H ds vs → Reps K ι H (ds.take n) (vs.take n)
  | 0, _, _, _ => Reps.nil
  | n + 1, [], _, h => by rw [h.unnil]; exact Reps.nil
  | n + 1, d :: ds, _, h => by
    obtain ⟨v, r, e1, h1, h3⟩ := h.uncons
    rw [e1]
    exact Reps.cons h1 (Reps.take n h3)
theorem Reps.drop : ∀ (n : Nat) {ds : List D} {vs : List V}, Reps K ι H ds vs → Reps K ι H (ds.drop n) (vs.drop n)
  | 0, _, _, h => h
  | n + 1, [], _, h => by rw [h.unnil]; exact Reps.nil
  | n + 1, d :: ds, _, h => by
    obtain ⟨v, r, e1, h1, h3⟩ := h.uncons
    rw [e1]
    exact Reps.drop n h3
theorem Reps.set {d : D} {v : V} (q : Rep K ι H d v) : ∀ (n : Nat) {ds : List D} {vs : List V}, Reps K ι H ds vs → Reps K ι H (ds.set n d) (vs.set n v)
  | n, [], _, h => by rw [h.unnil]; exact Reps.nil
  | 0, e :: ds, _, h => by
    obtain ⟨w, r, e1, h1, h3⟩ := h.uncons
    rw [e1]
    exact Reps.cons q h3
  | n + 1, e :: ds, _, h => by
    obtain ⟨w, r, e1, h1, h3⟩ := h.uncons
    rw [e1]
    exact Reps.cons h1 (Reps.set q n h3)
theorem Reps.eraseIdx : ∀ (n : Nat) {ds : List D} {vs : List V}, Reps K ι H ds vs → Reps K ι H (ds.eraseIdx n) (vs.eraseIdx n)
  | n, [], _, h => by rw [h.unnil]; exact Reps.nil
  | 0, e :: ds, _, h => by
    obtain ⟨w, r, e1, h1, h3⟩ := h.uncons
    rw [e1]
    exact h3
  | n + 1, e :: ds, _, h => by
    obtain ⟨w, r, e1, h1, h3⟩ := h.uncons
    rw [e1]
    exact Reps.cons h1 (Reps.eraseIdx n h3)
theorem Reps.dropLast {ds : List D} {vs : List V} (h : Reps K ι H ds vs) : Reps K ι H ds.dropLast vs.dropLast := by
  rw [List.dropLast_eq_take, List.dropLast_eq_take, h.len]
  exact h.take _
theorem Reps.reverse : ∀ {ds : List D} {vs : List V}, Reps K ι H ds vs → Reps K ι H ds.reverse vs.reverse
  | [], _, h => by rw [h.unnil]; exact Reps.nil
  | d :: ds, _, h => by
    obtain ⟨v, r, e1, h1, h3⟩ := h.uncons
    rw [e1, List.reverse_cons, List.reverse_cons]
    exact Reps.append (Reps.reverse h3) (Reps.cons h1 Reps.nil)
theorem Reps.rep {ds : List D} {vs : List V} (h : Reps K ι H ds vs) : ∀ k : Nat, Reps K ι H (List.replicate k ds).flatten (List.replicate k vs).flatten
  | 0 => Reps.nil
  | k + 1 => by
    rw [List.replicate_succ, List.replicate_succ, List.flatten_cons, List.flatten_cons]
    exact h.append (h.rep k)
theorem Reps.cut {ds : List D} {vs : List V} (h : Reps K ι H ds vs) (lo hi : Option Int) : Reps K ι H (cutD ds lo hi) (cutV vs lo hi) := by
  unfold cutD cutV
  rw [h.len]
  exact (h.drop _).take _
theorem Reps.atI {ds : List D} {vs : List V} {i : Int} {d : D} (h : Reps K ι H ds vs) (e : L2.atI ds i = some d) : ∃ v, L2.atI vs i = some v ∧ Rep K ι H d v := by
  unfold L2.atI at e ⊢
  rw [← h.len]
  cases q : ixN ds.length i with
  | none => rw [q] at e; cases e
  | some j =>
    rw [q] at e
    exact h.get e

/-! ### the store -/
theorem SR.of {S : Store} (s : SR K ι S H) {l : Nat} {o : SO} (h : S[l]? = some o) : ∃ a, ι[l]? = some a ∧ RepO K ι H a o := by
  have hl : l < ι.length := by
    rw [s.len]
    exact (List.getElem?_eq_some_iff.mp h).1
  exact ⟨ι[l], List.getElem?_eq_getElem hl, s.at_ l o _ h (List.getElem?_eq_getElem hl)⟩
theorem SR.lst {S : Store} (s : SR K ι S H) {l : Nat} {ds : List D} (h : S[l]? = some (.lst ds)) : ∃ a xs, ι[l]? = some a ∧ H a = some (.lst xs) ∧ Reps K ι H ds xs := by
  obtain ⟨a, e, xs, q, r⟩ := s.of h
  exact ⟨a, xs, e, q, r⟩
/-- every address of the store is a list -/
theorem SR.mem {S : Store} (s : SR K ι S H) {a : Addr} (h : a ∈ ι) : ∃ xs, H a = some (.lst xs) := by
  obtain ⟨l, hl, e⟩ := List.getElem_of_mem h
  have hs : l < S.length := by rw [← s.len]; exact hl
  have q := s.at_ l _ a (List.getElem?_eq_getElem hs) (by rw [List.getElem?_eq_getElem hl, e])
  cases r : S[l] with
  | lst ds =>
    rw [r] at q
    obtain ⟨xs, e1, _⟩ := q
    exact ⟨xs, e1⟩
theorem SR.notMem {S : Store} (s : SR K ι S H) {a : Addr} (h : H a = none) : a ∉ ι := fun z => by
  obtain ⟨xs, e⟩ := s.mem z
  rw [h] at e
  cases e
theorem step_laid {p : Addr} {o : HO} (h : H p = none) : Step ι H ι (upd H p o) where
  pre := ⟨[], by simp⟩
  tup := fun a xs e => by rw [upd_ne (ne_of_none e h)]; exact e
  frz := fun a x u e => by rw [upd_ne (ne_of_none e h)]; exact e
  keep := fun a x e _ _ => by rw [upd_ne (ne_of_none e h)]; exact e
  tabs := fun a ps e => ⟨ps, by rw [upd_ne (ne_of_none e h)]; exact e, id⟩
  new := fun a h1 h2 => absurd h1 h2
theorem RepO.step {a : Addr} {o : SO} (s : Step ι H ι' H') (k : ∀ u, H a = some u → H' a = some u) (h : RepO K ι H a o) : RepO K ι' H' a o := by
  cases o with
  | lst ds =>
    obtain ⟨xs, e, r⟩ := h
    exact ⟨xs, k _ e, Reps.step s ds xs r⟩
theorem tabG_step {P : Addr} (s : Step ι H ι' H') (h : GxR.TabG H P) : GxR.TabG H' P := by
  obtain ⟨ps, e, t⟩ := h
  obtain ⟨ps', e', t'⟩ := s.tabs P ps e
  exact ⟨ps', e', t' t⟩
theorem SR.laid {S : Store} (s : SR K ι S H) {p : Addr} {o : HO} (h : H p = none) : SR K ι S (upd H p o) :=
  ⟨s.nd, s.len, fun l x a e1 e2 => RepO.step (step_laid h) (fun u e => by rw [upd_ne (ne_of_none e h)]; exact e) (s.at_ l x a e1 e2), fun q hq => tabG_step (step_laid (ι := ι) h) (s.tb q hq)⟩
/-- a new list -/
theorem step_new {p : Addr} {xs : List V} (h : H p = none) : Step ι H (ι ++ [p]) (upd H p (.lst xs)) where
  pre := ⟨[p], rfl⟩
  tup := fun a ys e => by rw [upd_ne (ne_of_none e h)]; exact e
  frz := fun a x u e => by rw [upd_ne (ne_of_none e h)]; exact e
  keep := fun a x e _ _ => by rw [upd_ne (ne_of_none e h)]; exact e
  tabs := fun a ps e => ⟨ps, by rw [upd_ne (ne_of_none e h)]; exact e, id⟩
  new := fun a h1 h2 => by
    rcases List.mem_append.mp h1 with z | z
    · exact absurd z h2
    · rw [List.mem_singleton.mp z]; exact h
theorem SR.new {S : Store} (s : SR K ι S H) {p : Addr} {ds : List D} {xs : List V} (h : H p = none) (r : Reps K ι H ds xs) : SR K (ι ++ [p]) (S ++ [.lst ds]) (upd H p (.lst xs)) := by
  have np := s.notMem h
  refine ⟨?_, by rw [List.length_append, List.length_append, s.len]; rfl, fun l x a e1 e2 => ?_, fun q hq => tabG_step (step_new (ι := ι) h) (s.tb q hq)⟩
  · rw [List.nodup_append]
    refine ⟨s.nd, by simp, fun a ha b hb e => ?_⟩
    rw [List.mem_singleton.mp hb] at e
    exact np (e ▸ ha)
  · by_cases hl : l < S.length
    · rw [List.getElem?_append_left hl] at e1
      rw [List.getElem?_append_left (by rw [s.len]; exact hl)] at e2
      exact RepO.step (step_new h) (fun u e => by rw [upd_ne (ne_of_none e h)]; exact e) (s.at_ l x a e1 e2)
    · have hl2 : l = S.length := by
        have := (List.getElem?_eq_some_iff.mp e1).1
        rw [List.length_append] at this
        simp at this
        omega
      subst hl2
      rw [List.getElem?_append_right (Nat.le_refl _)] at e1
      rw [List.getElem?_append_right (by rw [s.len]; exact Nat.le_refl _), s.len] at e2
      simp at e1 e2
      subst e1 e2
      exact ⟨xs, upd_same, Reps.step (step_new h) ds xs r⟩
theorem new_get {S : Store} (s : SR K ι S H) (p : Addr) : (ι ++ [p])[S.length]? = some p := by
  rw [List.getElem?_append_right (by rw [s.len]; exact Nat.le_refl _), s.len]
  simp
/-- a list of the store is changed -/
theorem step_set {S : Store} (s : SR K ι S H) {a : Addr} {xs ys : List V} {l : Nat} (hl : ι[l]? = some a) (h : H a = some (.lst xs)) : Step ι H ι (upd H a (.lst ys)) where
  pre := ⟨[], by simp⟩
  tup := fun b zs e => by rw [upd_ne (ne_of e h (by intro z; cases z))]; exact e
  frz := fun b x u e => by rw [upd_ne (ne_of e h (by intro z; cases z))]; exact e
  tabs := fun b ps e => ⟨ps, by rw [upd_ne (ne_of e h (by intro z; cases z))]; exact e, id⟩
  keep := fun b x e n _ => by
    rw [upd_ne]
    · exact e
    · intro z
      subst z
      exact n (List.mem_of_getElem? hl)
  new := fun b h1 h2 => absurd h1 h2
theorem SR.set {S : Store} (s : SR K ι S H) {a : Addr} {xs ys : List V} {ds : List D} {l : Nat} (hl : ι[l]? = some a) (h : H a = some (.lst xs)) (r : Reps K ι H ds ys) : SR K ι (S.set l (.lst ds)) (upd H a (.lst ys)) := by
  refine ⟨s.nd, by rw [List.length_set]; exact s.len, fun j x b e1 e2 => ?_, fun p hp => tabG_step (step_set s hl h) (s.tb p hp)⟩
  by_cases hj : l = j
  · subst hj
    have hS : l < S.length := by rw [← s.len]; exact (List.getElem?_eq_some_iff.mp hl).1
    rw [List.getElem?_set_self hS] at e1
    rw [hl] at e2
    cases e1
    cases e2
    exact ⟨ys, upd_same, Reps.step (step_set s hl h) ds ys r⟩
  · rw [List.getElem?_set_ne hj] at e1
    have hb : b ≠ a := fun z => by
      subst z
      have h1 := List.getElem?_eq_some_iff.mp hl
      have h2 := List.getElem?_eq_some_iff.mp e2
      have pw := List.pairwise_iff_getElem.mp s.nd
      rcases Nat.lt_or_gt_of_ne hj with z | z
      · exact pw l j h1.1 h2.1 z (h1.2.trans h2.2.symm)
      · exact pw j l h2.1 h1.1 z (h2.2.trans h1.2.symm)
    exact RepO.step (step_set s hl h) (fun u e => by rw [upd_ne hb]; exact e) (s.at_ j x b e1 e2)

/-! ### closed data -/
mutual
theorem clD_of : ∀ (d : D) (v : V), Rep K ι H d v → clD ι.length d = true
  | .non, _, _ => rfl
  | .bl _, _, _ => rfl
  | .int _, _, _ => rfl
  | .str _, _, _ => rfl
  | .tup ds, v, h => by
    unfold Rep at h
    obtain ⟨a, xs, _, _, r⟩ := h
    unfold clD
    exact clDs_of ds xs r
  | .rls ds, v, h => by
    unfold Rep at h
    obtain ⟨a, xs, _, _, r⟩ := h
    unfold clD
    exact clDs_of ds xs r
  | .loc l, v, h => by
    unfold Rep at h
    obtain ⟨a, _, e⟩ := h
    unfold clD
    exact decide_eq_true (List.getElem?_eq_some_iff.mp e).1
theorem clDs_of : ∀ (ds : List D) (vs : List V), Reps K ι H ds vs → clDs ι.length ds = true
  | [], _, _ => rfl
  | d :: ds, vs, h => by
    obtain ⟨v, r, _, h1, h2⟩ := h.uncons
    unfold clDs
    rw [clD_of d v h1, clDs_of ds r h2]
    rfl
end
mutual
theorem Rep.cut {t : List Addr} : ∀ (d : D) (v : V), clD ι.length d = true → Rep K (ι ++ t) H d v → Rep K ι H d v
  | .non, v, _, h => by unfold Rep at h ⊢; exact h
  | .bl b, v, _, h => by unfold Rep at h ⊢; exact h
  | .int i, v, _, h => by unfold Rep at h ⊢; exact h
  | .str x, v, _, h => by unfold Rep at h ⊢; exact h
  | .tup ds, v, c, h => by
    unfold Rep at h ⊢
    unfold clD at c
    obtain ⟨a, xs, e, q, r⟩ := h
    exact ⟨a, xs, e, q, Reps.cutI ds xs c r⟩
  | .rls ds, v, c, h => by
    unfold Rep at h ⊢
    unfold clD at c
    obtain ⟨a, xs, e, q, r⟩ := h
    exact ⟨a, xs, e, q, Reps.cutI ds xs c r⟩
  | .loc l, v, c, h => by
    unfold Rep at h ⊢
    unfold clD at c
    obtain ⟨a, e, q⟩ := h
    rw [List.getElem?_append_left (of_decide_eq_true c)] at q
    exact ⟨a, e, q⟩
theorem Reps.cutI {t : List Addr} : ∀ (ds : List D) (vs : List V), clDs ι.length ds = true → Reps K (ι ++ t) H ds vs → Reps K ι H ds vs
  | [], vs, _, h => by rw [h.unnil]; exact Reps.nil
  | d :: ds, vs, c, h => by
    obtain ⟨v, r, e, h1, h2⟩ := h.uncons
    unfold clDs at c
    rw [Bool.and_eq_true] at c
    rw [e]
    exact Reps.cons (Rep.cut d v c.1 h1) (Reps.cutI ds r c.2 h2)
end
/-- what is younger is forgotten -/
theorem SR.back {S S' : Store} (s : SR K ι S H) (s' : SR K ι' S' H') (st : Step ι H ι' H') (e : Cuts S S') : SR K ι (S'.take S.length) H' := by
  obtain ⟨t, et⟩ := st.pre
  subst et
  obtain ⟨hle, hc⟩ := e
  refine ⟨s.nd, by rw [s.len, List.length_take]; omega, fun l x a e1 e2 => ?_, s'.tb⟩
  have hl : l < S.length := by
    have := (List.getElem?_eq_some_iff.mp e1).1
    rw [List.length_take] at this
    omega
  rw [List.getElem?_take_of_lt hl] at e1
  have q := s'.at_ l x a e1 (by rw [List.getElem?_append_left (by rw [s.len]; exact hl)]; exact e2)
  rcases hc l hl with h | ⟨o, h, ho⟩
  · rw [h] at e1
    have q0 := s.at_ l x a e1 e2
    cases x with
    | lst ds =>
      obtain ⟨xs, h1, h2⟩ := q
      obtain ⟨ys, h3, h4⟩ := q0
      exact ⟨xs, h1, Reps.cutI ds xs (clDs_of ds ys h4) h2⟩
  · rw [h] at e1
    cases e1
    cases x with
    | lst ds =>
      obtain ⟨xs, h1, h2⟩ := q
      exact ⟨xs, h1, Reps.cutI ds xs (by rw [s.len]; exact ho) h2⟩
theorem Step.back (st : Step ι H ι' H') : Step ι H ι H' := ⟨⟨⟨[], by simp⟩, st.tup, st.frz⟩, st.keep, st.tabs, fun a h n => absurd h n⟩
end
end
end SX
namespace SX
open PySem PySem.Spec PyProof.Rows L2

/-! ### t * 1 is t -/
theorem tuple_mul1 (l : Addr) (items : Array Value) (n : Nat) (dd : Option Addr) (sl : Array (Option Value)) (u : Tok) :
    Meets (Builtin.«tuple.__mul__» ⟨[.ref l, .int 1 u], []⟩) (fun _ R s => s.heap.get? l = some { cls := .type "tuple", dict := dd, data := .seq items n, slots := sl } ∧
      R (.ok (.ret (Value.ref l))) s) :=
  .of_wp fun prog w A R s h => by
    obtain ⟨hp, g, d, tk, os⟩ := s
    obtain ⟨hl, h⟩ := h
    have f1 := AutoSeq1.idx_int
    wp_walk using wpAny_loadPart' hl
    exact ⟨_, rfl, h⟩
theorem op_repT1 {X : Cx} : OpR X (binaryOp .Mult) (fun x y H Q => ∃ l xs, x = .ref l ∧ y = .int 1 ∧ SqT X.K H l xs ∧ Q (.ref l) H) := by
  intro pins s σ H x y v u Q I rx ry h
  obtain ⟨l, xs, rfl, rfl, hT, q⟩ := h
  cases rx
  obtain ⟨t, rfl⟩ := ry
  obtain ⟨its, r, ⟨⟨cls, dd, data, sl⟩, ho, hc, n, hd⟩, hs⟩ := I.tuple hT
  simp only at hc hd
  subst hc hd
  exact wpAny_binaryOp_repeat_ref (T := "tuple") (U := "int") (by decide) ⟨_, ho, rfl⟩ (fun s' => typeIs_int s' 1 t) noFill_tuple_mul F.fills_int_mul F.slot_int_rmul repeat_tuple F.slot_int_index.lookup
    (call_meets F.slot_int_rmul (typeIs_int s 1 t) F.entry_int_rmul (F.args_int_rmul_2 _ _) (int_rmul_tuple 1 t l its.toArray n dd sl)
      ⟨ho, rfl, ⟨_, ho, rfl⟩, call_meets F.slot_tuple_mul ⟨_, ho, rfl⟩ F.entry_tuple_mul (F.args_tuple_mul_2 _ _) (tuple_mul1 l its.toArray n dd sl t) ⟨ho, ⟨.ref l, H, I, rfl, q⟩⟩⟩)

/-! ### t * 0 is () -/
theorem tuple_mul0 (l : Addr) (items : Array Value) (n : Nat) (dd : Option Addr) (sl : Array (Option Value)) (u : Tok) (ne : items.isEmpty = false) :
    Meets (Builtin.«tuple.__mul__» ⟨[.ref l, .int 0 u], []⟩) (fun _ R s => s.heap.get? l = some { cls := .type "tuple", dict := dd, data := .seq items n, slots := sl } ∧
      R (.ok (.ret (Value.ref s.heap.objs.size))) { s with heap := s.heap.push { cls := Value.type "tuple", data := Data.seq #[] }, toks := s.toks }) :=
  .of_wp fun prog w A R s h => by
    obtain ⟨hp, g, d, tk, os⟩ := s
    obtain ⟨hl, h⟩ := h
    have f1 := AutoSeq1.idx_int
    wp_walk using wpAny_loadPart' hl
    have z1 : (items.isEmpty || (0 : Int) == 1) = false := by rw [ne]; rfl
    repeat (first
      | (refine wpAny_ite_false (decide_eq_false (by rw [z1]; exact Bool.false_ne_true)) ?_; wp_walk using wpAny_loadPart' hl))
    exact ⟨_, rfl, h⟩
theorem op_repT0 {X : Cx} : OpR X (binaryOp .Mult) (fun x y H Q => ∃ l xs, x = .ref l ∧ y = .int 0 ∧ SqT X.K H l xs ∧ xs ≠ [] ∧ ∀ p, H p = none → Q (.ref p) (upd H p (.tup []))) := by
  intro pins s σ H x y v u Q I rx ry h
  obtain ⟨l, xs, rfl, rfl, hT, ne, q⟩ := h
  cases rx
  obtain ⟨t, rfl⟩ := ry
  obtain ⟨its, r, ⟨⟨cls, dd, data, sl⟩, ho, hc, n, hd⟩, hs⟩ := I.tuple hT
  simp only at hc hd
  subst hc hd
  have hi : its.toArray.isEmpty = false := by
    cases its with
    | nil => exact absurd (List.eq_nil_of_length_eq_zero (by rw [r.length]; rfl)) ne
    | cons a b => rfl
  have hn : H s.heap.objs.size = none := I.hok.fresh (Nat.le_refl _)
  refine wpAny_binaryOp_repeat_ref (T := "tuple") (U := "int") (by decide) ⟨_, ho, rfl⟩ (fun s' => typeIs_int s' 0 t) noFill_tuple_mul F.fills_int_mul F.slot_int_rmul repeat_tuple F.slot_int_index.lookup
    (call_meets F.slot_int_rmul (typeIs_int s 0 t) F.entry_int_rmul (F.args_int_rmul_2 _ _) (int_rmul_tuple 0 t l its.toArray n dd sl)
      ⟨ho, rfl, ⟨_, ho, rfl⟩, call_meets F.slot_tuple_mul ⟨_, ho, rfl⟩ F.entry_tuple_mul (F.args_tuple_mul_2 _ _) (tuple_mul0 l its.toArray n dd sl t hi) ⟨ho, ?_⟩⟩)
  exact ⟨.ref s.heap.objs.size, upd H s.heap.objs.size (.tup []), I.laid (t' := s.toks) (fun b o e => Heap.get?_push_of_some _ e) (Nat.le_refl _) ⟨Nat.zero_le _, [], .nil, ⟨_, Heap.get?_push_size _ rfl, rfl, 0, rfl⟩⟩, rfl, q _ hn⟩

/-! ### x in t, where t is a tuple -/
theorem op_inT {X : Cx} (hu : X.A.units + 65 < cLine) : OpR X (compareOp .In) (fun x y H Q => ∃ d ds, Dp X.K H x d ∧ Dp X.K H y (.tuple ds) ∧ SeqAt.shaped d = true ∧ SeqAt.shaped (.tuple ds) = true ∧ Q (.bl (ds.any fun z => PyData.eqv z d)) H) := by
  intro pins s σ H x y v u Q I rx ry h
  obtain ⟨d, ds, hd, he, sd, se, q⟩ := h
  obtain ⟨as1, a1⟩ := Dp.reads I d x v hd rx
  obtain ⟨as2, a2⟩ := Dp.reads I (.tuple ds) y u he ry
  have c1 := SeqAt.canLay_of_shaped se
  have c2 := SeqAt.canLay_of_shaped sd
  refine SeqAt.in_tuple_reads a2 a1 c1 c2 (room_in_shaped sd hu) ?_
  exact ⟨.bl _, H, I, rfl, q⟩
theorem op_notInT {X : Cx} (hu : X.A.units + 65 < cLine) : OpR X (compareOp .NotIn) (fun x y H Q => ∃ d ds, Dp X.K H x d ∧ Dp X.K H y (.tuple ds) ∧ SeqAt.shaped d = true ∧ SeqAt.shaped (.tuple ds) = true ∧ Q (.bl (!ds.any fun z => PyData.eqv z d)) H) := by
  intro pins s σ H x y v u Q I rx ry h
  obtain ⟨d, ds, hd, he, sd, se, q⟩ := h
  obtain ⟨as1, a1⟩ := Dp.reads I d x v hd rx
  obtain ⟨as2, a2⟩ := Dp.reads I (.tuple ds) y u he ry
  have c1 := SeqAt.canLay_of_shaped se
  have c2 := SeqAt.canLay_of_shaped sd
  refine SeqAt.notIn_tuple_reads a2 a1 c1 c2 (room_in_shaped sd hu) ?_
  exact ⟨.bl _, H, I, rfl, q⟩

noncomputable section
open Classical
variable [Tabs]

/-! ### what a result is to bring about -/
def Got {α β : Type} (K : PySem.W.Frag) (ι : List Addr) (H : Hp) (r : Res α) (R : List Addr → Hp → α → β → Prop) (Q : β → Hp → Prop) : Prop :=
  ∃ a S', r = .ok a S' ∧ ∀ ι' H' b, Step ι H ι' H' → SR K ι' S' H' → R ι' H' a b → Q b H'
section
variable {K : PySem.W.Frag} {ι ι' : List Addr} {H H' : Hp} {α β γ : Type}
theorem got_step {r : Res α} {R : List Addr → Hp → α → β → Prop} {Q : β → Hp → Prop} (st : Step ι H ι' H') (g : Got K ι H r R Q) : Got K ι' H' r R Q := by
  obtain ⟨a, S', e, h⟩ := g
  exact ⟨a, S', e, fun ι2 H2 b s2 => h ι2 H2 b (st.trans s2)⟩
theorem got_bnd {r : Res γ} {k : γ → Store → Res α} {R : List Addr → Hp → α → β → Prop} {Q : β → Hp → Prop} (g : Got K ι H (r.bnd k) R Q) : ∃ c S1, r = .ok c S1 ∧ Got K ι H (k c S1) R Q := by
  obtain ⟨a, S', e, h⟩ := g
  obtain ⟨c, S1, e1, e2⟩ := bnd_eq_ok e
  exact ⟨c, S1, e1, a, S', e2, h⟩
theorem got_bad {R : List Addr → Hp → α → β → Prop} {Q : β → Hp → Prop} (g : Got K ι H (.bad : Res α) R Q) : False := by
  obtain ⟨a, S', e, _⟩ := g
  cases e
theorem got_ok {a : α} {S : Store} {R : List Addr → Hp → α → β → Prop} {Q : β → Hp → Prop} (g : Got K ι H (.ok a S) R Q) : ∀ ι' H' b, Step ι H ι' H' → SR K ι' S H' → R ι' H' a b → Q b H' := by
  obtain ⟨a', S', e, h⟩ := g
  cases e
  exact h
theorem got_ite {c : Prop} [Decidable c] {r1 r2 : Res α} {R : List Addr → Hp → α → β → Prop} {Q : β → Hp → Prop} (g : Got K ι H (if c then r1 else r2) R Q) : (c ∧ Got K ι H r1 R Q) ∨ (¬ c ∧ Got K ι H r2 R Q) := by
  by_cases h : c
  · rw [if_pos h] at g; exact .inl ⟨h, g⟩
  · rw [if_neg h] at g; exact .inr ⟨h, g⟩
/-- a scalar value -/
theorem got_val {d : D} {S : Store} {Q : VK} {v : V} (g : Got K ι H (.ok d S) (Rep K) Q) (s : SR K ι S H) (r : Rep K ι H d v) : Q v H := got_ok g ι H v Step.refl s r
theorem got_tup {ds : List D} {S : Store} {Q : VK} {xs : List V} (g : Got K ι H (.ok (.tup ds) S) (Rep K) Q) (s : SR K ι S H) (r : Reps K ι H ds xs) : ∀ p, H p = none → Q (.ref p) (upd H p (.tup xs)) := fun p hp => by
  refine got_ok g ι _ (.ref p) (step_laid hp) (s.laid hp) ?_
  unfold Rep
  exact ⟨p, xs, rfl, SqT.of upd_same, Reps.step (step_laid hp) ds xs r⟩
theorem got_new {ds : List D} {S : Store} {Q : VK} {xs : List V} (g : Got K ι H (new S (.lst ds)) (Rep K) Q) (s : SR K ι S H) (r : Reps K ι H ds xs) : ∀ p, H p = none → Q (.ref p) (upd H p (.lst xs)) := fun p hp => by
  refine got_ok g (ι ++ [p]) _ (.ref p) (step_new hp) (s.new hp r) ?_
  unfold Rep
  exact ⟨p, rfl, new_get s p⟩
theorem got_set {d : D} {ds : List D} {S : Store} {Q : VK} {xs ys : List V} {v : V} {l : Nat} {a : Addr} (g : Got K ι H (.ok d (S.set l (.lst ds))) (Rep K) Q) (s : SR K ι S H) (hl : ι[l]? = some a) (h : H a = some (.lst xs)) (r : Reps K ι H ds ys) (rv : Rep K ι H d v) :
    Q v (upd H a (.lst ys)) := got_ok g ι _ v (step_set s hl h) (s.set hl h r) (Rep.step (step_set s hl h) d v rv)
end

/-! ### reading data -/
section
variable {K : PySem.W.Frag} {ι : List Addr} {H : Hp} {S : Store}
theorem rep_int {i : Int} {v : V} (h : Rep K ι H (.int i) v) : v = .int i := by unfold Rep at h; exact h
theorem rep_bl {b : Bool} {v : V} (h : Rep K ι H (.bl b) v) : v = .bl b := by unfold Rep at h; exact h
theorem rep_str {x : Str} {v : V} (h : Rep K ι H (.str x) v) : v = .str x := by unfold Rep at h; exact h
theorem rep_non {v : V} (h : Rep K ι H .non v) : v = .non := by unfold Rep at h; exact h
theorem rep_tup {ds : List D} {v : V} (h : Rep K ι H (.tup ds) v) : ∃ a xs, v = .ref a ∧ SqT K H a xs ∧ Reps K ι H ds xs := by unfold Rep at h; exact h
theorem rep_rls {ds : List D} {v : V} (h : Rep K ι H (.rls ds) v) : ∃ a xs, v = .ref a ∧ RoL K H a xs ∧ Reps K ι H ds xs := by unfold Rep at h; exact h
theorem rep_loc {l : Nat} {v : V} (h : Rep K ι H (.loc l) v) : ∃ a, v = .ref a ∧ ι[l]? = some a := by unfold Rep at h; exact h
theorem to_int (i : Int) : Rep K ι H (.int i) (.int i) := by unfold Rep; rfl
theorem to_bl (b : Bool) : Rep K ι H (.bl b) (.bl b) := by unfold Rep; rfl
theorem to_str (x : Str) : Rep K ι H (.str x) (.str x) := by unfold Rep; rfl
theorem to_non : Rep K ι H .non .non := by unfold Rep; rfl
theorem rep_loc_lst {l : Nat} {v : V} {ds : List D} (s : SR K ι S H) (h : Rep K ι H (.loc l) v) (e : S[l]? = some (.lst ds)) : ∃ a xs, v = .ref a ∧ ι[l]? = some a ∧ H a = some (.lst xs) ∧ Reps K ι H ds xs := by
  obtain ⟨a, rfl, q⟩ := rep_loc h
  obtain ⟨b, xs, q2, h2, r⟩ := s.lst e
  rw [q] at q2
  cases q2
  exact ⟨a, xs, rfl, q, h2, r⟩
/-- a walked or indexed thing: a list or a tuple -/
theorem seq_of {d : D} {v : V} {ds : List D} (s : SR K ι S H) (h : Rep K ι H d v) (e : seqD d S = some ds) : ∃ a xs, v = .ref a ∧ Reps K ι H ds xs ∧ ((SqL K H a xs ∧ (∀ es, d ≠ .tup es)) ∨ (SqT K H a xs ∧ ∃ es, d = .tup es)) := by
  unfold seqD at e
  split at e
  · cases e
    obtain ⟨a, xs, rfl, q, r⟩ := rep_tup h
    exact ⟨a, xs, rfl, r, .inr ⟨q, _, rfl⟩⟩
  · cases e
    obtain ⟨a, xs, rfl, q, r⟩ := rep_rls h
    exact ⟨a, xs, rfl, r, .inl ⟨q.seq, fun es z => by cases z⟩⟩
  · split at e
    · rename_i e2
      cases e
      obtain ⟨a, xs, rfl, q, q2, r⟩ := rep_loc_lst s h e2
      exact ⟨a, xs, rfl, r, .inl ⟨SqL.of q2, fun es z => by cases z⟩⟩
    · cases e
  · cases e
theorem tru_of {d : D} {v : V} {b : Bool} (s : SR K ι S H) (h : Rep K ι H d v) (e : truD d S = some b) : TruV K v H b := by
  unfold truD at e
  split at e
  · cases e; rw [rep_non h]; exact rfl
  · cases e; rw [rep_bl h]; exact rfl
  · cases e; rw [rep_int h]; exact rfl
  · split at e
    · rename_i hl
      cases e
      rw [rep_str h]
      rw [line_eq] at hl
      exact ⟨hl, rfl⟩
    · cases e
  · rename_i ds
    cases e
    obtain ⟨a, xs, rfl, q, r⟩ := rep_tup h
    refine .inr (.inl ⟨xs, q, ?_⟩)
    have := r.len
    cases ds <;> cases xs <;> simp_all
  · rename_i ds
    cases e
    obtain ⟨a, xs, rfl, q, r⟩ := rep_rls h
    refine .inl ⟨xs, q.seq, ?_⟩
    have := r.len
    cases ds <;> cases xs <;> simp_all
  · split at e
    · rename_i ds e2
      cases e
      obtain ⟨a, xs, rfl, q, q2, r⟩ := rep_loc_lst s h e2
      refine .inl ⟨xs, SqL.of q2, ?_⟩
      have := r.len
      cases ds <;> cases xs <;> simp_all
    · cases e
end

/-! ### the operators -/
def boOp : BO → Operator
  | .add => .Add | .sub => .Sub | .mul => .Mult | .fdiv => .FloorDiv | .mod => .Mod | .pow => .Pow
def OpS (K : PySem.W.Frag) (f : D → D → Store → Res D) : R2 := fun x y H Q => ∃ ι S a b, SR K ι S H ∧ Rep K ι H a x ∧ Rep K ι H b y ∧ Got K ι H (f a b S) (Rep K) Q
section
variable {X : Cx}
theorem op_bin (op : BO) : OpR X (binaryOp (boOp op)) (OpS X.K (binD op)) := by
  intro pins s σ H x y v u Q I rx ry h
  obtain ⟨ι, S, a, b, sr, ra, rb, g⟩ := h
  unfold binD at g
  split at g
  · rename_i i j
    obtain rfl := rep_int ra
    obtain rfl := rep_int rb
    exact op_add pins s σ H _ _ v u Q I rx ry ⟨i, j, rfl, rfl, got_val g sr (to_int _)⟩
  · rename_i xs ys
    rcases got_ite g with ⟨hl, g⟩ | ⟨_, g⟩
    · obtain ⟨a, us, rfl, qa, r1⟩ := rep_tup ra
      obtain ⟨b, ws, rfl, qb, r2⟩ := rep_tup rb
      rw [line_eq, r1.len, r2.len] at hl
      have r3 := r1.append r2
      refine op_catA pins s σ H _ _ v u Q I rx ry ⟨a, b, us, ws, rfl, rfl, qa, qb, hl, fun e => ?_, fun _ e => ?_, fun _ _ => got_tup g sr r3⟩
      · subst e
        refine got_val g sr ?_
        unfold Rep
        exact ⟨b, ws, rfl, qb, r3⟩
      · subst e
        refine got_val g sr ?_
        unfold Rep
        rw [List.append_nil] at r3
        exact ⟨a, us, rfl, qa, r3⟩
    · exact (got_bad g).elim
  · rename_i i j
    rcases got_ite g with ⟨hl, g⟩ | ⟨_, g⟩
    · obtain rfl := rep_str ra
      obtain rfl := rep_str rb
      rw [line_eq] at hl
      exact op_add_str pins s σ H _ _ v u Q I rx ry ⟨i, j, rfl, rfl, hl, got_val g sr (to_str _)⟩
    · exact (got_bad g).elim
  · rename_i l m
    split at g
    · rename_i xs ys e1 e2
      rcases got_ite g with ⟨hl, g⟩ | ⟨_, g⟩
      · obtain ⟨a, us, rfl, _, qa, r1⟩ := rep_loc_lst sr ra e1
        obtain ⟨b, ws, rfl, _, qb, r2⟩ := rep_loc_lst sr rb e2
        rw [line_eq, r1.len, r2.len] at hl
        exact op_cat pins s σ H _ _ v u Q I rx ry ⟨a, b, us, ws, rfl, rfl, qa, qb, hl, got_new g sr (r1.append r2)⟩
      · exact (got_bad g).elim
    · exact (got_bad g).elim
  · rename_i i j
    obtain rfl := rep_int ra
    obtain rfl := rep_int rb
    exact op_sub pins s σ H _ _ v u Q I rx ry ⟨i, j, rfl, rfl, got_val g sr (to_int _)⟩
  · rename_i i j
    rcases got_ite g with ⟨hl, g⟩ | ⟨_, g⟩
    · obtain rfl := rep_int ra
      obtain rfl := rep_int rb
      rcases hl with hl | hl
      · exact op_mulW pins s σ H _ _ v u Q I rx ry ⟨i, j, rfl, rfl, hl, got_val g sr (to_int _)⟩
      · exact op_mul pins s σ H _ _ v u Q I rx ry ⟨i, j, rfl, rfl, hl, got_val g sr (to_int _)⟩
    · exact (got_bad g).elim
  · rename_i xs k
    rcases got_ite g with ⟨⟨h1, h2, h3, h4⟩, g⟩ | ⟨_, g⟩
    · obtain ⟨a, us, rfl, qa, r1⟩ := rep_tup ra
      obtain rfl := rep_int rb
      have r3 := r1.rep k.toNat
      by_cases hk0 : k = 0
      · subst hk0
        have ne : us ≠ [] := fun e => by
          subst e
          exact h1 (List.eq_nil_of_length_eq_zero r1.len)
        refine op_repT0 pins s σ H _ _ v u Q I rx ry ⟨a, us, rfl, rfl, qa, ne, ?_⟩
        exact got_tup g sr r3
      by_cases hk : k = 1
      · subst hk
        refine op_repT1 pins s σ H _ _ v u Q I rx ry ⟨a, us, rfl, rfl, qa, got_val g sr ?_⟩
        unfold Rep
        refine ⟨a, us, rfl, qa, ?_⟩
        simpa using r1
      · refine op_repT pins s σ H _ _ v u Q I rx ry ⟨a, k, us, rfl, rfl, qa, fun e => ?_, by omega, h3, by rw [← r1.len]; exact h4, got_tup g sr r3⟩
        subst e
        exact h1 (List.eq_nil_of_length_eq_zero r1.len)
    · exact (got_bad g).elim
  · rename_i i j
    rcases got_ite g with ⟨hl, g⟩ | ⟨_, g⟩
    · obtain rfl := rep_int ra
      obtain rfl := rep_int rb
      exact op_fdivW pins s σ H _ _ v u Q I rx ry ⟨i, j, rfl, rfl, hl, got_val g sr (to_int _)⟩
    · exact (got_bad g).elim
  · rename_i i j
    rcases got_ite g with ⟨hl, g⟩ | ⟨_, g⟩
    · obtain rfl := rep_int ra
      obtain rfl := rep_int rb
      exact op_mod pins s σ H _ _ v u Q I rx ry ⟨i, j, rfl, rfl, hl, got_val g sr (to_int _)⟩
    · exact (got_bad g).elim
  · rename_i i j
    rcases got_ite g with ⟨hl, g⟩ | ⟨_, g⟩
    · obtain rfl := rep_int ra
      obtain rfl := rep_int rb
      exact op_pow pins s σ H _ _ v u Q I rx ry ⟨i, j, rfl, rfl, hl, got_val g sr (to_int _)⟩
    · exact (got_bad g).elim
  · exact (got_bad g).elim

/-! ### comparisons -/
def coOp : CO → CmpOp
  | .lt => .Lt | .le => .LtE | .gt => .Gt | .ge => .GtE | .eq => .Eq | .ne => .NotEq | .isN => .Is | .notN => .IsNot | .isin => .In | .notin => .NotIn
theorem scal_of {K : PySem.W.Frag} {ι : List Addr} {H : Hp} {a b : D} {x y : V} {r : Bool} (ra : Rep K ι H a x) (rb : Rep K ι H b y) (e : scalD a b = some r) : scal x y = true ∧ decide (x = y) = r := by
  unfold scalD at e
  split at e
  all_goals first
    | (cases e; done)
    | (obtain rfl := rep_non ra; obtain rfl := rep_non rb; cases e; exact ⟨rfl, by simp⟩)
    | (obtain rfl := rep_non ra; obtain rfl := rep_int rb; cases e; exact ⟨rfl, by simp⟩)
    | (obtain rfl := rep_int ra; obtain rfl := rep_non rb; cases e; exact ⟨rfl, by simp⟩)
    | (obtain rfl := rep_non ra; obtain rfl := rep_bl rb; cases e; exact ⟨rfl, by simp⟩)
    | (obtain rfl := rep_bl ra; obtain rfl := rep_non rb; cases e; exact ⟨rfl, by simp⟩)
    | (obtain rfl := rep_non ra; obtain rfl := rep_str rb; cases e; exact ⟨rfl, by simp⟩)
    | (obtain rfl := rep_str ra; obtain rfl := rep_non rb; cases e; exact ⟨rfl, by simp⟩)
    | (obtain rfl := rep_int ra; obtain rfl := rep_int rb; cases e; exact ⟨rfl, by simp⟩)
    | (obtain rfl := rep_bl ra; obtain rfl := rep_bl rb; cases e; exact ⟨rfl, by simp⟩)
    | (obtain rfl := rep_str ra; obtain rfl := rep_str rb; cases e; exact ⟨rfl, by simp⟩)
    | (obtain rfl := rep_int ra; obtain rfl := rep_str rb; cases e; exact ⟨rfl, by simp⟩)
    | (obtain rfl := rep_str ra; obtain rfl := rep_int rb; cases e; exact ⟨rfl, by simp⟩)
    | (obtain rfl := rep_bl ra; obtain rfl := rep_str rb; cases e; exact ⟨rfl, by simp⟩)
    | (obtain rfl := rep_str ra; obtain rfl := rep_bl rb; cases e; exact ⟨rfl, by simp⟩)
mutual
theorem dp_of {K : PySem.W.Frag} {ι : List Addr} {H : Hp} : ∀ (d : D) (v : V) (p : PyData), Rep K ι H d v → pyD d = some p → Dp K H v p
  | .non, v, p, h, e => by unfold pyD at e; cases e; rw [rep_non h]; exact .non
  | .bl b, v, p, h, e => by unfold pyD at e; cases e; rw [rep_bl h]; exact .bl b
  | .int i, v, p, h, e => by unfold pyD at e; cases e; rw [rep_int h]; exact .int i
  | .str x, v, p, h, e => by unfold pyD at e; cases e; rw [rep_str h]; exact .str x
  | .tup ds, v, p, h, e => by
    unfold pyD at e
    obtain ⟨ps, e1, rfl⟩ := Option.map_eq_some_iff.mp e
    obtain ⟨a, xs, rfl, q, r⟩ := rep_tup h
    exact .tup q (dps_of ds xs ps r e1)
  | .rls ds, v, p, h, e => by
    unfold pyD at e
    obtain ⟨ps, e1, rfl⟩ := Option.map_eq_some_iff.mp e
    obtain ⟨a, xs, rfl, q, r⟩ := rep_rls h
    exact .lst q.seq (dps_of ds xs ps r e1)
  | .loc l, v, p, h, e => by unfold pyD at e; cases e
theorem dps_of {K : PySem.W.Frag} {ι : List Addr} {H : Hp} : ∀ (ds : List D) (vs : List V) (ps : List PyData), Reps K ι H ds vs → pyDs ds = some ps → DpAll K H vs ps
  | [], vs, ps, h, e => by unfold pyDs at e; cases e; rw [h.unnil]; exact .nil
  | d :: ds, vs, ps, h, e => by
    unfold pyDs at e
    obtain ⟨v, r, rfl, h1, h2⟩ := h.uncons
    split at e
    · rename_i x xs e1 e2
      cases e
      exact .cons (dp_of d v x h1 e1) (dps_of ds r xs h2 e2)
    · cases e
end
theorem dpT_of {K : PySem.W.Frag} {ι : List Addr} {H : Hp} {S : Store} (s : SR K ι S H) {d : D} {v : V} {p : PyData} (h : Rep K ι H d v) (e : pyT d S = some p) : Dp K H v p := by
  unfold pyT at e
  split at e
  · split at e
    · rename_i e2
      obtain ⟨ps, e1, rfl⟩ := Option.map_eq_some_iff.mp e
      obtain ⟨a, xs, rfl, _, q2, r⟩ := rep_loc_lst s h e2
      exact .lst (SqL.of q2) (dps_of _ xs ps r e1)
    · cases e
  · exact dp_of d v p h e
theorem op_eqS (hu : X.A.units + 64 < cLine) : OpR X (compareOp .Eq) (OpS X.K fun a b S => ofB (eqD a b S) S) := by
  intro pins s σ H x y v u Q I rx ry h
  obtain ⟨ι, S, a, b, sr, ra, rb, g⟩ := h
  dsimp only at g
  unfold eqD at g
  split at g
  · rename_i r e
    obtain ⟨h1, h2⟩ := scal_of ra rb e
    exact op_eq pins s σ H x y v u Q I rx ry ⟨h1, by rw [h2]; exact got_val g sr (to_bl _)⟩
  · split at g
    · rename_i p q e1 e2
      by_cases hs : SeqAt.shaped p = true ∧ SeqAt.shaped q = true
      · rw [if_pos hs] at g
        exact op_eqD hu pins s σ H x y v u Q I rx ry ⟨p, q, dpT_of sr ra e1, dpT_of sr rb e2, hs.1, hs.2, got_val g sr (to_bl _)⟩
      · rw [if_neg hs] at g
        exact (got_bad g).elim
    · exact (got_bad g).elim
theorem op_neS (hu : X.A.units + 64 < cLine) : OpR X (compareOp .NotEq) (OpS X.K fun a b S => ofB ((eqD a b S).map (!·)) S) := by
  intro pins s σ H x y v u Q I rx ry h
  obtain ⟨ι, S, a, b, sr, ra, rb, g⟩ := h
  dsimp only at g
  unfold eqD at g
  split at g
  · rename_i r e
    obtain ⟨h1, h2⟩ := scal_of ra rb e
    exact op_ne pins s σ H x y v u Q I rx ry ⟨h1, by rw [h2]; exact got_val g sr (to_bl _)⟩
  · split at g
    · rename_i p q e1 e2
      by_cases hs : SeqAt.shaped p = true ∧ SeqAt.shaped q = true
      · rw [if_pos hs] at g
        exact op_neD hu pins s σ H x y v u Q I rx ry ⟨p, q, dpT_of sr ra e1, dpT_of sr rb e2, hs.1, hs.2, got_val g sr (to_bl _)⟩
      · rw [if_neg hs] at g
        exact (got_bad g).elim
    · exact (got_bad g).elim
theorem op_inS (hu : X.A.units + 65 < cLine) : OpR X (compareOp .In) (OpS X.K fun a b S => ofB (inD a b S) S) := by
  intro pins s σ H x y v u Q I rx ry h
  obtain ⟨ι, S, a, b, sr, ra, rb, g⟩ := h
  dsimp only at g
  unfold inD at g
  split at g
  · rename_i p ys e1 e2
    by_cases hs : SeqAt.shaped p = true ∧ SeqAt.shaped (.list ys) = true
    · rw [if_pos hs] at g
      exact op_inD hu pins s σ H x y v u Q I rx ry ⟨p, ys, dpT_of sr ra e1, dpT_of sr rb e2, hs.1, hs.2, got_val g sr (to_bl _)⟩
    · rw [if_neg hs] at g
      exact (got_bad g).elim
  · rename_i p ys e1 e2
    by_cases hs : SeqAt.shaped p = true ∧ SeqAt.shaped (.tuple ys) = true
    · rw [if_pos hs] at g
      exact op_inT hu pins s σ H x y v u Q I rx ry ⟨p, ys, dpT_of sr ra e1, dpT_of sr rb e2, hs.1, hs.2, got_val g sr (to_bl _)⟩
    · rw [if_neg hs] at g
      exact (got_bad g).elim
  · exact (got_bad g).elim
theorem op_notInS (hu : X.A.units + 65 < cLine) : OpR X (compareOp .NotIn) (OpS X.K fun a b S => ofB ((inD a b S).map (!·)) S) := by
  intro pins s σ H x y v u Q I rx ry h
  obtain ⟨ι, S, a, b, sr, ra, rb, g⟩ := h
  dsimp only at g
  unfold inD at g
  split at g
  · rename_i p ys e1 e2
    by_cases hs : SeqAt.shaped p = true ∧ SeqAt.shaped (.list ys) = true
    · rw [if_pos hs] at g
      exact op_notInD hu pins s σ H x y v u Q I rx ry ⟨p, ys, dpT_of sr ra e1, dpT_of sr rb e2, hs.1, hs.2, got_val g sr (to_bl _)⟩
    · rw [if_neg hs] at g
      exact (got_bad g).elim
  · rename_i p ys e1 e2
    by_cases hs : SeqAt.shaped p = true ∧ SeqAt.shaped (.tuple ys) = true
    · rw [if_pos hs] at g
      exact op_notInT hu pins s σ H x y v u Q I rx ry ⟨p, ys, dpT_of sr ra e1, dpT_of sr rb e2, hs.1, hs.2, got_val g sr (to_bl _)⟩
    · rw [if_neg hs] at g
      exact (got_bad g).elim
  · exact (got_bad g).elim
theorem rep_isNon {K : PySem.W.Frag} {ι : List Addr} {H : Hp} {a : D} {x : V} (ra : Rep K ι H a x) : decide (x = .non) = isNonD a := by
  cases a with
  | non => cases rep_non ra; rfl
  | bl b => cases rep_bl ra; simp [isNonD]
  | int b => cases rep_int ra; simp [isNonD]
  | str b => cases rep_str ra; simp [isNonD]
  | tup b => obtain ⟨_, _, rfl, _⟩ := rep_tup ra; simp [isNonD]
  | rls b => obtain ⟨_, _, rfl, _⟩ := rep_rls ra; simp [isNonD]
  | loc b => obtain ⟨_, rfl, _⟩ := rep_loc ra; simp [isNonD]
theorem op_cmp (hu : X.A.units + 65 < cLine) (op : CO) : OpR X (compareOp (coOp op)) (OpS X.K fun a b S => ofB (cmpD op a b S) S) := by
  intro pins s σ H x y v u Q I rx ry h
  obtain ⟨ι, S, a, b, sr, ra, rb, g⟩ := h
  dsimp only at g
  unfold cmpD at g
  split at g
  · rename_i i j
    obtain rfl := rep_int ra
    obtain rfl := rep_int rb
    exact op_lt pins s σ H _ _ v u Q I rx ry ⟨i, j, rfl, rfl, got_val g sr (to_bl _)⟩
  · rename_i i j
    obtain rfl := rep_int ra
    obtain rfl := rep_int rb
    exact op_le pins s σ H _ _ v u Q I rx ry ⟨i, j, rfl, rfl, got_val g sr (to_bl _)⟩
  · rename_i i j
    obtain rfl := rep_int ra
    obtain rfl := rep_int rb
    exact op_gt pins s σ H _ _ v u Q I rx ry ⟨i, j, rfl, rfl, got_val g sr (to_bl _)⟩
  · rename_i i j
    obtain rfl := rep_int ra
    obtain rfl := rep_int rb
    exact op_ge pins s σ H _ _ v u Q I rx ry ⟨i, j, rfl, rfl, got_val g sr (to_bl _)⟩
  · exact op_eqS (by omega) pins s σ H x y v u Q I rx ry ⟨ι, S, _, _, sr, ra, rb, g⟩
  · exact op_neS (by omega) pins s σ H x y v u Q I rx ry ⟨ι, S, _, _, sr, ra, rb, g⟩
  · obtain rfl := rep_non rb
    exact op_isN pins s σ H x _ v u Q I rx ry ⟨rfl, by rw [rep_isNon ra]; exact got_val g sr (to_bl _)⟩
  · obtain rfl := rep_non rb
    exact op_notN pins s σ H x _ v u Q I rx ry ⟨rfl, by rw [rep_isNon ra]; exact got_val g sr (to_bl _)⟩
  · exact op_inS hu pins s σ H x y v u Q I rx ry ⟨ι, S, _, _, sr, ra, rb, g⟩
  · exact op_notInS hu pins s σ H x y v u Q I rx ry ⟨ι, S, _, _, sr, ra, rb, g⟩
  · exact (got_bad g).elim
end
end
end SX
namespace SX
open PySem PySem.Spec PyProof.Rows L2
noncomputable section
open Classical
variable [Tabs]
section
variable {X : Cx}

/-! ### built-in functions -/
def PrS (K : PySem.W.Frag) (p : Pr) : List V → Hp → VK → Prop := fun xs H Q => ∃ ι S ds, SR K ι S H ∧ Reps K ι H ds xs ∧ Got K ι H (primD p ds S) (Rep K) Q
theorem reps1 {K : PySem.W.Frag} {ι : List Addr} {H : Hp} {d : D} {xs : List V} (r : Reps K ι H [d] xs) : ∃ x, xs = [x] ∧ Rep K ι H d x := by
  obtain ⟨v, w, rfl, h1, h2⟩ := r.uncons
  rw [h2.unnil]
  exact ⟨v, rfl, h1⟩
theorem reps2 {K : PySem.W.Frag} {ι : List Addr} {H : Hp} {d e : D} {xs : List V} (r : Reps K ι H [d, e] xs) : ∃ x y, xs = [x, y] ∧ Rep K ι H d x ∧ Rep K ι H e y := by
  obtain ⟨v, w, rfl, h1, h2⟩ := r.uncons
  obtain ⟨y, rfl, h3⟩ := reps1 h2
  exact ⟨v, y, rfl, h1, h3⟩
theorem pr_abs : CallR X (.builtin "abs") (PrS X.K .abs) := by
  intro pins s σ H xs us Q I r h
  obtain ⟨ι, S, ds, sr, rr, g⟩ := h
  unfold primD at g
  dsimp only at g
  unfold pAbs at g
  split at g
  all_goals first | exact (got_bad g).elim | skip
  rename_i i
  obtain ⟨x, rfl, r1⟩ := reps1 rr
  obtain rfl := rep_int r1
  exact call_abs pins s σ H _ us Q I r ⟨i, rfl, got_val g sr (to_int _)⟩
theorem pr_max (hc : X.calm = true) : CallR X (.builtin "max") (PrS X.K .max) := by
  intro pins s σ H xs us Q I r h
  obtain ⟨ι, S, ds, sr, rr, g⟩ := h
  unfold primD at g
  dsimp only at g
  unfold pMax at g
  split at g
  all_goals first | exact (got_bad g).elim | skip
  rename_i i j
  obtain ⟨x, y, rfl, r1, r2⟩ := reps2 rr
  obtain rfl := rep_int r1
  obtain rfl := rep_int r2
  exact call_max2 hc pins s σ H _ us Q I r ⟨i, j, rfl, got_val g sr (to_int _)⟩
theorem pr_min (hc : X.calm = true) : CallR X (.builtin "min") (PrS X.K .min) := by
  intro pins s σ H xs us Q I r h
  obtain ⟨ι, S, ds, sr, rr, g⟩ := h
  unfold primD at g
  dsimp only at g
  unfold pMin at g
  split at g
  all_goals first | exact (got_bad g).elim | skip
  rename_i i j
  obtain ⟨x, y, rfl, r1, r2⟩ := reps2 rr
  obtain rfl := rep_int r1
  obtain rfl := rep_int r2
  exact call_min2 hc pins s σ H _ us Q I r ⟨i, j, rfl, got_val g sr (to_int _)⟩
theorem pr_int : CallR X (.type "int") (PrS X.K .int) := by
  intro pins s σ H xs us Q I r h
  obtain ⟨ι, S, ds, sr, rr, g⟩ := h
  unfold primD at g
  dsimp only at g
  unfold pInt at g
  split at g
  all_goals first | exact (got_bad g).elim | skip
  · rename_i i
    obtain ⟨x, rfl, r1⟩ := reps1 rr
    obtain rfl := rep_int r1
    exact call_int1 pins s σ H _ us Q I r (.inl ⟨i, rfl, got_val g sr (to_int _)⟩)
  · rename_i i
    obtain ⟨x, rfl, r1⟩ := reps1 rr
    obtain rfl := rep_bl r1
    exact call_int1 pins s σ H _ us Q I r (.inr ⟨i, rfl, got_val g sr (to_int _)⟩)
theorem pr_len : CallR X (.builtin "len") (PrS X.K .len) := by
  intro pins s σ H xs us Q I r h
  obtain ⟨ι, S, ds, sr, rr, g⟩ := h
  unfold primD at g
  dsimp only at g
  unfold pLen at g
  split at g
  all_goals first | exact (got_bad g).elim | skip
  · rename_i z
    rcases got_ite g with ⟨hl, g⟩ | ⟨_, g⟩
    · obtain ⟨x, rfl, r1⟩ := reps1 rr
      obtain rfl := rep_str r1
      rw [line_eq] at hl
      exact call_len_str pins s σ H _ us Q I r ⟨z, rfl, hl, got_val g sr (to_int _)⟩
    · exact (got_bad g).elim
  · rename_i d _
    split at g
    · rename_i es e
      obtain ⟨x, rfl, r1⟩ := reps1 rr
      obtain ⟨a, ys, rfl, r2, hs⟩ := seq_of sr r1 e
      have g' := got_val g sr (to_int _)
      rw [r2.len] at g'
      refine call_len_seq pins s σ H _ us Q I r ⟨a, ys, rfl, ?_, g'⟩
      rcases hs with ⟨h, _⟩ | ⟨h, _⟩
      · exact .inl h
      · exact .inr h
    · exact (got_bad g).elim
theorem rep_tupI {K : PySem.W.Frag} {ι : List Addr} {H : Hp} {ds : List D} {a : Addr} {xs : List V} (q : SqT K H a xs) (r : Reps K ι H ds xs) : Rep K ι H (.tup ds) (.ref a) := by
  unfold Rep
  exact ⟨a, xs, rfl, q, r⟩
theorem pr_tuple : CallR X (.type "tuple") (PrS X.K .tuple) := by
  intro pins s σ H xs us Q I r h
  obtain ⟨ι, S, ds, sr, rr, g⟩ := h
  unfold primD at g
  dsimp only at g
  unfold pTuple at g
  split at g
  all_goals first | exact (got_bad g).elim | skip
  · obtain ⟨x, rfl, r1⟩ := reps1 rr
    obtain ⟨a, ys, rfl, q, r2⟩ := rep_tup r1
    exact call_tuple_of pins s σ H _ us Q I r ⟨a, ys, rfl, .inr ⟨q, got_val g sr r1⟩⟩
  · rename_i d hd
    split at g
    · rename_i es e
      obtain ⟨x, rfl, r1⟩ := reps1 rr
      obtain ⟨a, ys, rfl, r2, hs⟩ := seq_of sr r1 e
      rcases hs with ⟨h, _⟩ | ⟨h, fs, rfl⟩
      · exact call_tuple_of pins s σ H _ us Q I r ⟨a, ys, rfl, .inl ⟨h, got_tup g sr r2⟩⟩
      · exact (hd fs rfl).elim
    · exact (got_bad g).elim
theorem pr_list : CallR X (.type "list") (PrS X.K .list) := by
  intro pins s σ H xs us Q I r h
  obtain ⟨ι, S, ds, sr, rr, g⟩ := h
  unfold primD at g
  dsimp only at g
  unfold pList at g
  split at g
  all_goals first | exact (got_bad g).elim | skip
  rename_i d
  split at g
  · rename_i es e
    obtain ⟨x, rfl, r1⟩ := reps1 rr
    obtain ⟨a, ys, rfl, r2, hs⟩ := seq_of sr r1 e
    refine call_list_of pins s σ H _ us Q I r ⟨a, ys, rfl, ?_, got_new g sr r2⟩
    rcases hs with ⟨h, _⟩ | ⟨h, _⟩
    · exact .inl h
    · exact .inr h
  · exact (got_bad g).elim
theorem allBl_of {K : PySem.W.Frag} {ι : List Addr} {H : Hp} : ∀ {ds : List D} {xs : List V} {bs : List Bool}, Reps K ι H ds xs → allBl ds = some bs → xs = bs.map V.bl
  | [], xs, bs, r, e => by unfold allBl at e; cases e; rw [r.unnil]; rfl
  | .bl b :: ds, xs, bs, r, e => by
    unfold allBl at e
    obtain ⟨cs, e1, rfl⟩ := Option.map_eq_some_iff.mp e
    obtain ⟨v, w, rfl, h1, h2⟩ := r.uncons
    rw [rep_bl h1, allBl_of h2 e1]
    rfl
  | .non :: ds, xs, bs, r, e => by unfold allBl at e; cases e
  | .int _ :: ds, xs, bs, r, e => by unfold allBl at e; cases e
  | .str _ :: ds, xs, bs, r, e => by unfold allBl at e; cases e
  | .tup _ :: ds, xs, bs, r, e => by unfold allBl at e; cases e
  | .rls _ :: ds, xs, bs, r, e => by unfold allBl at e; cases e
  | .loc _ :: ds, xs, bs, r, e => by unfold allBl at e; cases e
theorem pr_any (hc : X.calm = true) : CallR X (.builtin "any") (PrS X.K .any) := by
  intro pins s σ H xs us Q I r h
  obtain ⟨ι, S, ds, sr, rr, g⟩ := h
  unfold primD at g
  dsimp only at g
  unfold pAny at g
  split at g
  all_goals first | exact (got_bad g).elim | skip
  rename_i l
  split at g
  · rename_i es e
    obtain ⟨x, rfl, r1⟩ := reps1 rr
    obtain ⟨a, ys, rfl, _, q, r2⟩ := rep_loc_lst sr r1 e
    unfold ofB at g
    split at g
    · rename_i b eb
      obtain ⟨bs, e1, rfl⟩ := Option.map_eq_some_iff.mp eb
      have e2 := allBl_of r2 e1
      subst e2
      exact cr_any hc pins s σ H _ us Q I r ⟨a, bs, rfl, SqL.of q, got_val g sr (to_bl _)⟩
    · exact (got_bad g).elim
  · exact (got_bad g).elim

/-! ### isinstance -/
def tyN : Ty → String
  | .bool => "bool" | .int => "int" | .str => "str" | .tuple => "tuple" | .list => "list"
def kdN : Kd → String
  | .non => "NoneType" | .bl => "bool" | .int => "int" | .str => "str" | .tup => "tuple" | .lst => "list"
theorem ty_of {K : PySem.W.Frag} {ι : List Addr} {H : Hp} {S : Store} {d : D} {v : V} (s : SR K ι S H) (r : Rep K ι H d v) : TyX K H v (.type (kdN (kdD d))) := by
  cases d with
  | non => rw [rep_non r]; exact .base .non
  | bl b => rw [rep_bl r]; exact .base (.bl b)
  | int b => rw [rep_int r]; exact .base (.int b)
  | str b => rw [rep_str r]; exact .base (.str b)
  | tup b =>
    obtain ⟨a, xs, rfl, q, _⟩ := rep_tup r
    rcases q with (h | ⟨o, h⟩) | ⟨o, its, n, e, c, _⟩
    · exact .base (.tup h)
    · exact .fTuple h
    · exact .kTuple e c
  | rls b =>
    obtain ⟨a, xs, rfl, q, _⟩ := rep_rls r
    rcases q with ⟨o, h⟩ | ⟨o, its, n, e, c, _⟩
    · exact .base (.frz h)
    · exact .kList e c
  | loc l =>
    obtain ⟨a, rfl, e⟩ := rep_loc r
    obtain ⟨xs, h⟩ := s.mem (List.mem_of_getElem? e)
    exact .base (.lst h)
theorem kit_isK (t : Ty) (k : Kd) : kitB (kdN k) (tyN t) = some (isK t k) := by
  cases t <;> cases k <;> decide +kernel
theorem kit_is {t : Ty} {d : D} {b : Bool} (h : isD t d = some b) : kitB (kdN (kdD d)) (tyN t) = some b := by
  unfold isD at h
  rw [kit_isK]
  exact h

/-! ### methods of lists -/
def MtS (K : PySem.W.Frag) (m : Mt) : V → List V → Hp → VK → Prop := fun x xs H Q => ∃ ι S d ds, SR K ι S H ∧ Rep K ι H d x ∧ Reps K ι H ds xs ∧ Got K ι H (methD m d ds S) (Rep K) Q
theorem mt_app : MtR X "list.append" (MtS X.K .append) := by
  intro pins s σ H x xs v us Q I rx r h
  obtain ⟨ι, S, d, ds, sr, rd, rr, g⟩ := h
  unfold methD at g
  dsimp only at g
  unfold mApp at g
  split at g
  all_goals first | exact (got_bad g).elim | skip
  rename_i l e
  split at g
  · rename_i zs ez
    rcases got_ite g with ⟨hl, g⟩ | ⟨_, g⟩
    · obtain ⟨y, rfl, r1⟩ := reps1 rr
      obtain ⟨a, ys, rfl, ea, q, r2⟩ := rep_loc_lst sr rd ez
      rw [line_eq, r2.len] at hl
      exact mt_append pins s σ H _ _ v us Q I rx r ⟨a, ys, y, rfl, rfl, q, hl, got_set g sr ea q (r2.append (.cons r1 .nil)) to_non⟩
    · exact (got_bad g).elim
  · exact (got_bad g).elim
theorem mt_rev : MtR X "list.reverse" (MtS X.K .reverse) := by
  intro pins s σ H x xs v us Q I rx r h
  obtain ⟨ι, S, d, ds, sr, rd, rr, g⟩ := h
  unfold methD at g
  dsimp only at g
  unfold mRev at g
  split at g
  all_goals first | exact (got_bad g).elim | skip
  rename_i l
  split at g
  · rename_i zs ez
    obtain rfl := rr.unnil
    obtain ⟨a, ys, rfl, ea, q, r2⟩ := rep_loc_lst sr rd ez
    exact mt_reverse pins s σ H _ _ v us Q I rx r ⟨a, ys, rfl, rfl, q, got_set g sr ea q r2.reverse to_non⟩
  · exact (got_bad g).elim
theorem ixN_range {n : Nat} {i : Int} {j : Nat} (h : ixN n i = some j) (hn : n ≤ sizeLine) : -(2 ^ 63) ≤ i ∧ i < 2 ^ 63 ∧ seqIndex? i n = some j := by
  obtain ⟨h1, h2, h3, h4⟩ := ixN_seq h
  rw [sizeLine_eq] at hn
  exact ⟨by omega, by omega, h1⟩
theorem mt_popS : MtR X "list.pop" (MtS X.K .pop) := by
  intro pins s σ H x xs v us Q I rx r h
  obtain ⟨ι, S, d, ds, sr, rd, rr, g⟩ := h
  unfold methD at g
  dsimp only at g
  unfold mPop at g
  split at g
  all_goals first | exact (got_bad g).elim | skip
  · rename_i l
    split at g
    · rename_i zs ez
      split at g
      · rename_i d ed
        obtain rfl := rr.unnil
        obtain ⟨a, ys, rfl, ea, q, r2⟩ := rep_loc_lst sr rd ez
        rw [r2.len] at ed
        obtain ⟨y, ey, ry⟩ := r2.get ed
        exact mt_pop pins s σ H _ _ v us Q I rx r ⟨a, ys, y, rfl, rfl, q, ey, got_set g sr ea q r2.dropLast ry⟩
      · exact (got_bad g).elim
    · exact (got_bad g).elim
  · rename_i l i
    split at g
    · rename_i zs ez
      split at g
      · rename_i k ek
        split at g
        · rename_i d ed
          obtain ⟨y, rfl, r1⟩ := reps1 rr
          obtain rfl := rep_int r1
          obtain ⟨a, ys, rfl, ea, q, r2⟩ := rep_loc_lst sr rd ez
          obtain ⟨y, ey, ry⟩ := r2.get ed
          rw [r2.len] at ek
          obtain ⟨h1, h2, h3⟩ := ixN_range ek (I.lstM q).1
          exact mt_popAt pins s σ H _ _ v us Q I rx r ⟨a, ys, i, k, y, rfl, rfl, q, h1, h2, h3, ey, got_set g sr ea q (r2.eraseIdx k) ry⟩
        · exact (got_bad g).elim
      · exact (got_bad g).elim
    · exact (got_bad g).elim

/-! ### subscripts, slices, stores -/
theorem ix_S : IxR X (OpS X.K idxD) := by
  intro value slice pins s σ H x y v u Q I rx ry h hs
  obtain ⟨ι, S, a, b, sr, ra, rb, g⟩ := h
  unfold idxD at g
  split at g
  · rename_i ds i e
    unfold okV at g
    split at g
    · rename_i d ed
      obtain rfl := rep_int rb
      obtain ⟨p, xs, rfl, r, hh⟩ := seq_of sr ra e
      obtain ⟨w, ew, rw_⟩ := r.atI ed
      rcases hh with ⟨hL, _⟩ | ⟨hT, _⟩
      · exact ix_list value slice pins s σ H _ _ v u Q I rx ry ⟨p, xs, i, w, rfl, rfl, hL, ew, got_val g sr rw_⟩ hs
      · exact ix_tup value slice pins s σ H _ _ v u Q I rx ry ⟨p, xs, i, w, rfl, rfl, hT, ew, got_val g sr rw_⟩ hs
    · exact (got_bad g).elim
  · exact (got_bad g).elim
/-- o[i], by values: lists -/
theorem get_S : PGet X fun x y H Q => ∃ ι S a b, SR X.K ι S H ∧ Rep X.K ι H a x ∧ Rep X.K ι H b y ∧ (∃ l, a = .loc l) ∧ Got X.K ι H (idxD a b S) (Rep X.K) Q := by
  intro pins s σ H x y v u Q I rx ry h
  obtain ⟨ι, S, a, b, sr, ra, rb, ⟨l, rfl⟩, g⟩ := h
  unfold idxD at g
  split at g
  · rename_i ds i e
    unfold okV at g
    split at g
    · rename_i d ed
      obtain rfl := rep_int rb
      obtain ⟨p, xs, rfl, r, hh⟩ := seq_of sr ra e
      obtain ⟨w, ew, rw_⟩ := r.atI ed
      have hL : SqL X.K H p xs := by
        rcases hh with ⟨hL, _⟩ | ⟨_, es, z⟩
        · exact hL
        · cases z
      cases rx
      obtain ⟨t, rfl⟩ := ry
      obtain ⟨its, rv, pl, hz⟩ := I.list hL
      obtain ⟨j, h1, h2, h3, h4, h5⟩ := atI_get ew
      obtain ⟨z, ez, rz⟩ := rv.get h2
      have hlen := rv.length
      have hline := line63
      have fin : EP X pins σ Q z s := ⟨w, H, I, rz, got_val g sr rw_⟩
      by_cases h0 : 0 ≤ i
      · have hj : i.toNat = j := by
          rw [seqIndex_of h0 h5] at h1
          exact Option.some.inj h1
        refine wpAny_getItem_list pl.isList h0 (by omega) ?_ fin
        rw [hj]
        simpa using ez
      · have hj : (i + (its.toArray.size : Int)).toNat = j := by
          rw [seqIndex_neg (by omega) h4] at h1
          rw [List.size_toArray, ← hlen]
          exact Option.some.inj h1
        refine wpAny_getItem_list_neg pl.isList (by omega) (by rw [List.size_toArray, ← hlen]; exact h4) (by omega) ?_ fin
        rw [hj]
        simpa using ez
    · exact (got_bad g).elim
  · exact (got_bad g).elim
def SlS (K : PySem.W.Frag) : V → Option Int → Option Int → Hp → VK → Prop := fun x lo hi H Q => ∃ ι S d, SR K ι S H ∧ Rep K ι H d x ∧ Got K ι H (slcD d lo hi S) (Rep K) Q
theorem cut_whole {α : Type} {xs : List α} {a b : Nat} (h1 : a = 0) (h2 : b = xs.length) : (xs.drop a).take (b - a) = xs := by
  subst h1 h2
  simp
theorem sl_S : SlR X (SlS X.K) := by
  intro pins s σ H x v vl vu lo hi sl Q I rx hs pl pu h
  obtain ⟨ι, S, d, sr, rd, g⟩ := h
  unfold slcD at g
  split at g
  · obtain ⟨a, xs, rfl, q, r⟩ := rep_tup rd
    refine sl_tupA pins s σ H _ v vl vu lo hi sl Q I rx hs pl pu ⟨a, xs, rfl, q, fun hw => got_val g sr ?_, fun _ => got_tup g sr (r.cut lo hi)⟩
    have r2 := r.cut lo hi
    unfold cutV at r2
    rw [cut_whole hw.1 hw.2] at r2
    exact rep_tupI q r2
  · obtain ⟨a, xs, rfl, q, r⟩ := rep_rls rd
    exact sl_list pins s σ H _ v vl vu lo hi sl Q I rx hs pl pu ⟨a, xs, rfl, q.seq, got_new g sr (r.cut lo hi)⟩
  · split at g
    · rename_i ds e
      obtain ⟨a, xs, rfl, _, q, r⟩ := rep_loc_lst sr rd e
      exact sl_list pins s σ H _ v vl vu lo hi sl Q I rx hs pl pu ⟨a, xs, rfl, SqL.of q, got_new g sr (r.cut lo hi)⟩
    · exact (got_bad g).elim
  · exact (got_bad g).elim
def SetS (K : PySem.W.Frag) : TSet := fun o i v H Q => ∃ ι S a b d, SR K ι S H ∧ Rep K ι H a o ∧ Rep K ι H b i ∧ Rep K ι H d v ∧ Got K ι H (setD a b d S) (fun _ _ _ (_ : Unit) => True) (fun _ H' => Q H')
theorem set_S : PSet X (SetS X.K) := by
  intro pins s σ H o i v ov iv u Q I ro ri rv h
  obtain ⟨ι, S, a, b, d, sr, ra, rb, rd, g⟩ := h
  unfold setD at g
  split at g
  · rename_i l k
    split at g
    · rename_i ds e
      split at g
      · rename_i j ej
        obtain rfl := rep_int rb
        obtain ⟨p, xs, rfl, ea, q, r⟩ := rep_loc_lst sr ra e
        rw [r.len] at ej
        exact set_list pins s σ H _ _ v ov iv u Q I ro ri rv ⟨p, xs, k, j, rfl, rfl, q, ej, got_ok g ι _ () (step_set sr ea q) (sr.set ea q (r.set rd j)) True.intro⟩
      · exact (got_bad g).elim
    · exact (got_bad g).elim
  · exact (got_bad g).elim
end
end
end SX
namespace SX
open PySem PySem.Spec PyProof.Rows L2

/-! ### the checker -/
structure Cn where
  N : List Str
  sc : Scope
  bl : List Str
  nf : Nat
  fn : Nat → Str
  kw : List (Nat × Nat × List Str × List Nat)
  co : List (Str × Cst)
  g : Bool
def visB (sc : Scope) (x : Str) : Bool := match sc.names.lookup x with
  | some .local => true
  | some .cell => true
  | some .free => true
  | _ => false
def locB (sc : Scope) (x : Str) : Bool := match sc.names.lookup x with
  | some .local => true
  | some .cell => true
  | _ => false
def glB (sc : Scope) (x : Str) : Bool := match sc.names.lookup x with
  | some .globalImplicit => !(x == ("__debug__" : Str))
  | _ => false
def blB (c : Cn) (x : Str) : Bool := glB c.sc x && c.bl.contains x && !(x == ("__name__" : Str))
def prN : Pr → Str
  | .abs => "abs" | .int => "int" | .len => "len" | .max => "max" | .min => "min" | .tuple => "tuple" | .list => "list" | .any => "any"
def mtN : Mt → Str
  | .append => "append" | .pop => "pop" | .reverse => "reverse"
def noStar : Expr → Bool
  | .Starred _ _ => false
  | _ => true
/-- no call without arguments (it may be super()) -/
def noCall0 : Expr → Bool
  | .Call (.Name _ _) [] [] _ => false
  | _ => true
def kwNames : List Keyword → Option (List Str)
  | [] => some []
  | ⟨some n, _, _⟩ :: ks => (kwNames ks).map (n :: ·)
  | ⟨none, _, _⟩ :: _ => none
def notList : Expr → Bool
  | .List _ _ => false
  | _ => true
/-- the names of a generator expression's scope -/
def genB (N : List Str) (sc scope : Scope) (own : List (Str × Nat)) : Bool :=
  decide (scope.kind = .function) && !scope.isCoroutine && decide (scope.names.lookup (".0" : Str) = some NameKind.local) && !(N.contains (".0" : Str)) && scope.names.all (fun y => decide (y.2 ≠ .cell)) &&
    scope.names.all (fun y => decide (scope.names.lookup y.1 = some y.2)) && own.all (fun p => decide (N[p.2]? = some p.1)) &&
    scope.names.all (fun y => !(decide (y.2 = .free)) || decide (sc.names.lookup y.1 = some .cell) || decide (sc.names.lookup y.1 = some .free)) &&
    scope.names.all (fun y => !(decide (y.2 = .local)) || (own.map (·.1)).contains y.1 || !(N.contains y.1))
def qlN (all : Bool) : Str := if all = true then "all" else "any"
def inCtx (c : Cn) (sc : Scope) : Cn := { c with sc := sc, g := false }
mutual
def ckT (c : Cn) : Tg → Expr → Bool
  | .nm i, ex => match ex with
    | .Name x _ => decide (c.N[i]? = some x) && locB c.sc x
    | _ => false
  | .tp ts, ex => match ex with
    | .Tuple es _ _ => ckTs c ts es
    | _ => false
def ckTs (c : Cn) : Tgs → List Expr → Bool
  | .nil, [] => true
  | .cons t ts, e :: es => ckT c t e && noStar e && ckTs c ts es
  | _, _ => false
end
mutual
def slotsT : Tg → List Nat
  | .nm i => [i]
  | .tp ts => slotsTs ts
def slotsTs : Tgs → List Nat
  | .nil => []
  | .cons t ts => slotsT t ++ slotsTs ts
end
def ownP (N : List Str) (own : List Nat) : List (Str × Nat) := own.map fun i => (N.getD i "", i)
mutual
def ckE (c : Cn) : E → Expr → Bool
  | .var i, ex => match ex with
    | .Name x _ => decide (c.N[i]? = some x) && visB c.sc x && !(x == ("__debug__" : Str)) && !(x == ("__classdict__" : Str))
    | _ => false
  | .cint i, ex => match ex with
    | .Constant (.int j) _ _ => decide (i = j)
    | _ => false
  | .cbl b, ex => match ex with
    | .Constant (.bool d) _ _ => decide (b = d)
    | _ => false
  | .cnon, ex => match ex with
    | .Constant .none _ _ => true
    | _ => false
  | .cstr x, ex => match ex with
    | .Constant (.str y) _ _ => decide (x = y)
    | _ => false
  | .tup es, ex => match ex with
    | .Tuple fs _ _ => ckEs c es fs
    | _ => false
  | .lst es, ex => match ex with
    | .List fs _ => ckEs c es fs
    | _ => false
  | .bin op a b, ex => match ex with
    | .BinOp l o r _ => decide (o = boOp op) && ckE c a l && ckE c b r
    | _ => false
  | .neg a, ex => match ex with
    | .UnaryOp .USub x _ => ckE c a x
    | _ => false
  | .not a, ex => match ex with
    | .UnaryOp .Not x _ => ckE c a x
    | _ => false
  | .and es, ex => match ex with
    | .BoolOp .And fs _ => ckEs c es fs
    | _ => false
  | .or es, ex => match ex with
    | .BoolOp .Or fs _ => ckEs c es fs
    | _ => false
  | .cmp op a b, ex => match ex with
    | .Compare l [o] [r] _ => decide (o = coOp op) && ckE c a l && ckE c b r
    | _ => false
  | .ite k a b, ex => match ex with
    | .IfExp t x y _ => ckE c k t && ckE c a x && ckE c b y
    | _ => false
  | .idx a b, ex => match ex with
    | .Subscript v s _ => ckE c a v && ckE c b s
    | _ => false
  | .slc a lo hi, ex => match ex with
    | .Subscript v (.Slice l h none _) _ => ckE c a v && (match l with
        | none => isAbs lo
        | some l => ckE c lo l) && (match h with
        | none => isAbs hi
        | some h => ckE c hi h)
    | _ => false
  | .absent, _ => false
  | .call f es, ex => match ex with
    | .Call (.Name x _) fs [] _ => decide (f < c.nf) && decide (c.fn f = x) && glB c.sc x && ckEs c es fs
    | _ => false
  | .callk f es ks perm, ex => match ex with
    | .Call (.Name x _) fs kws _ => decide (f < c.nf) && decide (c.fn f = x) && glB c.sc x && (match kwNames kws with
        | some ns => decide ((f, fs.length, ns, perm) ∈ c.kw)
        | none => false) && ckEs c es fs && ckKs c ks kws
    | _ => false
  | .prim p es, ex => match ex with
    | .Call (.Name x _) (e :: fs) [] _ => decide (x = prN p) && blB c x && ckEs c es (e :: fs)
    | _ => false
  | .isin t a, ex => match ex with
    | .Call (.Name x _) [e, .Name y _] [] _ => decide (x = "isinstance") && blB c x && decide (y = (tyN t : Str)) && blB c y && ckE c a e
    | _ => false
  | .meth m o es, ex => match ex with
    | .Call (.Attribute e n p) fs [] q => decide (n = mtN m) && ckE c o e && ckEs c es fs && noCall0 e && (p.endLine == q.line) && decide (fs.length < 29)
    | _ => false
  | .lc elt t it cs own, ex => match ex with
    | .ListComp el [⟨tg, iter, ifs, as⟩] scope _ => decide (as = 0) && ckIt c it iter && blkC c.N c.sc scope (ownP c.N own) && (slotsT t).all (fun i => own.contains i) && own.all (fun i => locB scope (c.N.getD i "")) &&
        ckT { c with sc := relS scope c.sc } t tg && ckEs { c with sc := relS scope c.sc } cs ifs && decide (ifs.length ≤ 1) && ckE { c with sc := relS scope c.sc } elt el
    | _ => false
  | .gcon x k, ex => match ex with
    | .Name y _ => decide (x = y) && glB c.sc x && decide ((x, k) ∈ c.co)
    | _ => false
  | .chain op op' a b d, ex => match ex with
    | .Compare l [o, o'] [r, r'] _ => decide (o = coOp op) && decide (o' = coOp op') && ckE c a l && ckE c b r && ckE c d r'
    | _ => false
  | .tupG elt t it cs own, ex => match ex with
    | .Call (.Name x _) [.GeneratorExp el [⟨tg, iter, ifs, as⟩] scope _] [] _ => decide (x = "tuple") && blB c x && decide (as = 0) && c.g && notList iter && ckIt c it iter && genB c.N c.sc scope (ownP c.N own) && (slotsT t).all (fun i => own.contains i) &&
        own.all (fun i => decide (scope.names.lookup (c.N.getD i "") = some .local)) && ckT (inCtx c scope) t tg && ckEs (inCtx c scope) cs ifs && decide (ifs.length ≤ 1) && ckE (inCtx c scope) elt el
    | _ => false
  | .qual all elt t it cs own, ex => match ex with
    | .Call (.Name x _) [.GeneratorExp el [⟨tg, iter, ifs, as⟩] scope _] [] _ => decide (x = qlN all) && blB c x && decide (as = 0) && c.g && notList iter && ckIt c it iter && genB c.N c.sc scope (ownP c.N own) && (slotsT t).all (fun i => own.contains i) &&
        own.all (fun i => decide (scope.names.lookup (c.N.getD i "") = some .local)) && ckT (inCtx c scope) t tg && ckEs (inCtx c scope) cs ifs && decide (ifs.length ≤ 1) && ckE (inCtx c scope) elt el
    | _ => false
  | .sumG elt t it cs own, ex => match ex with
    | .Call (.Name x _) [.GeneratorExp el [⟨tg, iter, ifs, as⟩] scope _] [] _ => decide (x = "sum") && blB c x && decide (as = 0) && c.g && notList iter && ckIt c it iter && genB c.N c.sc scope (ownP c.N own) && (slotsT t).all (fun i => own.contains i) &&
        own.all (fun i => decide (scope.names.lookup (c.N.getD i "") = some .local)) && ckT (inCtx c scope) t tg && ckEs (inCtx c scope) cs ifs && decide (ifs.length ≤ 1) && ckE (inCtx c scope) elt el
    | _ => false
  | .lc2 elt t it cs own t1 it1 cs1 own1, ex => match ex with
    | .ListComp el [⟨tg, iter, ifs, as⟩, ⟨tg1, iter1, ifs1, as1⟩] scope _ => decide (as = 0) && decide (as1 = 0) && ckIt c it iter && blkC c.N c.sc scope (ownP c.N own) && (slotsT t).all (fun i => own.contains i) && own.all (fun i => locB scope (c.N.getD i "")) &&
        (slotsT t1).all (fun i => own1.contains i) && own1.all (fun i => own.contains i) &&
        ckT { c with sc := relS scope c.sc } t tg && ckEs { c with sc := relS scope c.sc } cs ifs && decide (ifs.length ≤ 1) && ckIt { c with sc := relS scope c.sc } it1 iter1 && ckT { c with sc := relS scope c.sc } t1 tg1 &&
        ckEs { c with sc := relS scope c.sc } cs1 ifs1 && decide (ifs1.length ≤ 1) && ckE { c with sc := relS scope c.sc } elt el
    | _ => false
def ckEs (c : Cn) : Es → List Expr → Bool
  | .nil, [] => true
  | .cons e es, x :: xs => ckE c e x && ckEs c es xs
  | _, _ => false
def ckKs (c : Cn) : Es → List Keyword → Bool
  | .nil, [] => true
  | .cons e es, ⟨some _, x, _⟩ :: xs => ckE c e x && ckKs c es xs
  | _, _ => false
def ckIt (c : Cn) : It → Expr → Bool
  | .seq e, ex => ckE c e ex
  | .range1 e, ex => match ex with
    | .Call (.Name x _) [a] [] _ => decide (x = "range") && blB c x && ckE c e a
    | _ => false
  | .range2 e f, ex => match ex with
    | .Call (.Name x _) [a, b] [] _ => decide (x = "range") && blB c x && ckE c e a && ckE c f b
    | _ => false
end

/-! ### what the checker's forms are not -/
section
variable {c : Cn} {e : E} {ex : Expr}
theorem ck_star (h : ckE c e ex = true) : noStar ex = true := by
  cases ex <;> first | rfl | (cases e <;> simp [ckE] at h)
theorem star_each {x : Expr} {xs : List Expr} {env : PySem.Env} (h : noStar x = true) : starEach (x :: xs) env = (false, eval x env) :: starEach xs env := by
  cases x <;> first | rfl | cases h
theorem asg_each {x : Expr} {xs : List Expr} {env : PySem.Env} (h : noStar x = true) : assignEach (x :: xs) env = (false, assign x env) :: assignEach xs env := by
  cases x <;> first | rfl | cases h
theorem ck_plainIx (h : ckE c e ex = true) : PlainIx ex := by
  intro o i
  cases ex <;> first | rfl | (cases e <;> simp [ckE] at h)
theorem ck_fold (h : ckE c e ex = true) (env : PySem.Env) : ∀ x, foldedSetIterable ex env x = pure x := by
  intro x
  cases ex <;> first | rfl | (cases e <;> simp [ckE] at h)
theorem ckIt_fold {it : It} (h : ckIt c it ex = true) (env : PySem.Env) : ∀ x, foldedSetIterable ex env x = pure x := by
  cases it with
  | seq e => unfold ckIt at h; exact ck_fold h env
  | range1 e =>
    intro x
    unfold ckIt at h
    cases ex <;> first | rfl | simp at h
  | range2 e f =>
    intro x
    unfold ckIt at h
    cases ex <;> first | rfl | simp at h
theorem ckIt_gen {it : It} (h : ckIt c it ex = true) (hl : notList ex = true) (env : PySem.Env) : ∀ x, genFold ex env x = pure x := by
  intro x
  have := ckIt_fold h env x
  cases ex <;> first | exact this | cases hl
theorem ck_marks (h : ckE c e ex = true) (op : CmpOp) : behindInMarks op ex = false := by
  cases ex <;> first | rfl | (cases e <;> simp [ckE] at h)
theorem base_of (h : noCall0 ex = true) (f : Str) (env : PySem.Env) : attributeBase ex f env (eval ex env) = eval ex env := by
  cases ex with
  | Call g as ks p =>
    cases g with
    | Name x q =>
      cases as with
      | nil =>
        cases ks with
        | nil => cases h
        | cons _ _ => rfl
      | cons _ _ => rfl
    | _ => rfl
  | _ => rfl
theorem back_plain : ∀ {es : Es} {fs : List Expr} {pos : Pos} {env : PySem.Env}, ckEs c es fs = true → (backTo pos (starEach fs env)).any (·.1) = false
  | .nil, [], _, _, _ => rfl
  | .nil, _ :: _, _, _, h => by simp [ckEs] at h
  | .cons _ _, [], _, _, h => by simp [ckEs] at h
  | .cons e es, x :: xs, pos, env, h => by
    unfold ckEs at h
    rw [Bool.and_eq_true] at h
    rw [star_each (ck_star h.1)]
    have ih := back_plain (es := es) (fs := xs) (pos := pos) (env := env) h.2
    unfold backTo at ih ⊢
    rw [List.map_cons, List.any_cons, ih]
    rfl
theorem vis_of {sc : Scope} {x : Str} (h : visB sc x = true) : Vis sc x := by
  unfold visB at h
  split at h
  · rename_i e; exact .inl e
  · rename_i e; exact .inr (.inl e)
  · rename_i e; exact .inr (.inr e)
  · cases h
theorem loc_of {sc : Scope} {x : Str} (h : locB sc x = true) : Loc sc x := by
  unfold locB at h
  split at h
  · rename_i e; exact .inl e
  · rename_i e; exact .inr e
  · cases h
theorem gl_of {sc : Scope} {x : Str} (h : glB sc x = true) : sc.names.lookup x = some .globalImplicit ∧ (x == ("__debug__" : Str)) = false := by
  unfold glB at h
  split at h
  · rename_i e
    refine ⟨e, ?_⟩
    simpa using h
  · cases h
end
end SX
namespace SX
open PySem PySem.Spec PyProof.Rows L2
noncomputable section
open Classical
variable [Tabs]

/-! ### promises -/
def GSp (K : PySem.W.Frag) (n : Nat) (φ : List D → Store → Res D) : Sp := fun vs H Q _ => vs.length = n ∧ ∃ ι S ds, SR K ι S H ∧ Reps K ι H ds vs ∧ Got K ι H (φ ds S) (Rep K) Q
def permV {α : Type} (perm : List Nat) (ds : List α) : List α := perm.filterMap fun i => ds[i]?
structure KB (fd : FuncData) (ps : List Str) (n : Nat) (ks : List Str) (perm : List Nat) : Prop where
  to : ∀ us ws : List Value, us.length = n → ws.length = ks.length → bindArgs fd ⟨us, ks.zip ws⟩ = pure (ps.zip (permV perm (us ++ ws)))
  lt : ∀ i ∈ perm, i < n + ks.length
structure FnC (X : Cx) (k : Nat) (name : Str) (φ : List D → Store → Res D) (kw : List (Nat × List Str × List Nat)) : Prop where
  ex : ∃ fa fd ps, X.mg name = some (.ref fa) ∧ PySem.W.keepIn X.K (.ref fa) = true ∧ FnOk X.prog X.w X.K X.mg X.base CX0 k fa fd ps (GSp X.K ps.length φ) ∧ L2.Binds X.K fd ps [] ∧ (∀ q ∈ kw, KB fd ps q.1 q.2.1 q.2.2) ∧ ∀ ds S d S', φ ds S = .ok d S' → ds.length = ps.length
structure ConOk (K : PySem.W.Frag) (mg : Str → Option Value) (x : Str) (k : Cst) : Prop where
  ex : ∃ v u, mg x = some u ∧ RelV v u ∧ ∀ ι H, Rep K ι H k.toD v
structure Fits (c : Cn) (F : Fns) (X : Cx) : Prop where
  calm : X.calm = true
  N : X.N = c.N
  nd : c.N.Nodup
  sc : X.env.scope = c.sc
  un : X.A.units + 65 < cLine
  xe : X.xe = fun _ _ => False
  bl : ∀ x, c.bl.contains x = true → X.mg x = none
  co : ∀ x k, (x, k) ∈ c.co → ConOk X.K X.mg x k
  gx : c.g = true → ∃ cA P, X.env.code = .ref cA ∧ GxR.TabB X.base X.mg cA P ∧ (cA, P) ∈ Tabs.cs
  rm : ∃ k, Room k X.A ∧ (c.g = true → Room (k + 6) X.A) ∧ ∀ f, f < c.nf → FnC X k (c.fn f) (F f) ((c.kw.filter fun q => q.1 == f).map (·.2))
theorem Fits.fns {c : Cn} {F : Fns} {X : Cx} (f : Fits c F X) (g : Nat) (h : g < c.nf) : ∃ fa fd ps k, X.mg (c.fn g) = some (.ref fa) ∧ PySem.W.keepIn X.K (.ref fa) = true ∧ FnOk X.prog X.w X.K X.mg X.base CX0 k fa fd ps (GSp X.K ps.length (F g)) ∧ Room k X.A ∧ L2.Binds X.K fd ps [] ∧
    (∀ q ∈ ((c.kw.filter fun q => q.1 == g).map (·.2)), KB fd ps q.1 q.2.1 q.2.2) ∧ ∀ ds S d S', F g ds S = .ok d S' → ds.length = ps.length := by
  obtain ⟨k, h1, _, h2⟩ := f.rm
  obtain ⟨fa, fd, ps, a, b, c, d, e, z⟩ := (h2 g h).ex
  exact ⟨fa, fd, ps, k, a, b, c, h1, d, e, z⟩
def RdE (K : PySem.W.Frag) (F : Fns) (e : E) : TE := fun σ H Q => ∃ ι env S, REnv K ι H env σ ∧ SR K ι S H ∧ Got K ι H (evE F e env S) (Rep K) Q
def RdEs (K : PySem.W.Frag) (F : Fns) (es : Es) : TA := fun σ H Q => ∃ ι env S, REnv K ι H env σ ∧ SR K ι S H ∧ Got K ι H (evEs F es env S) (Reps K) Q
def RdB (K : PySem.W.Frag) (f : Env → Store → Res Bool) : TT := fun σ H Q => ∃ ι env S, REnv K ι H env σ ∧ SR K ι S H ∧ Got K ι H (f env S) (fun _ _ a b => a = b) Q
def RdV (K : PySem.W.Frag) (f : Env → Store → Res D) : TE := fun σ H Q => ∃ ι env S, REnv K ι H env σ ∧ SR K ι S H ∧ Got K ι H (f env S) (Rep K) Q
theorem PE.imp {X : Cx} {e : Expr} {t t' : TE} (h : PE X e t) (w : ∀ σ H Q, t' σ H Q → t σ H Q) : PE X e t' := ⟨fun pins s σ H Q I q => h.run pins s σ H Q I (w σ H Q q)⟩
theorem PT.imp {X : Cx} {e : Expr} {t t' : TT} (h : PT X e t) (w : ∀ σ H Q, t' σ H Q → t σ H Q) : PT X e t' := ⟨fun pins s σ H Q I q => h.run pins s σ H Q I (w σ H Q q)⟩
theorem PW.imp {X : Cx} {e : Expr} {t t' : TT} (h : PW X e t) (w : ∀ σ H Q, t' σ H Q → t σ H Q) : PW X e t' := ⟨fun wh pins s σ H Q I q => h.run wh pins s σ H Q I (w σ H Q q)⟩
theorem PA.imp {X : Cx} {e : List Expr} {t t' : TA} (h : PA X e t) (w : ∀ σ H Q, t' σ H Q → t σ H Q) : PA X e t' := ⟨fun pos pins s σ H Q I q => h.run pos pins s σ H Q I (w σ H Q q)⟩
theorem PK.imp {X : Cx} {e : List Keyword} {t t' : TA} (h : PK X e t) (w : ∀ σ H Q, t' σ H Q → t σ H Q) : PK X e t' := ⟨fun pos pins s σ H Q I q => h.run pos pins s σ H Q I (w σ H Q q)⟩
theorem PS.imp {X : Cx} {e : Stmt} {t t' : TS} (h : PS X e t) (w : ∀ D σ H, t' D σ H → t D σ H) : PS X e t' := ⟨fun pins s σ H D I q => h.run pins s σ H D I (w D σ H q)⟩
theorem PSs.imp {X : Cx} {e : List Stmt} {t t' : TS} (h : PSs X e t) (w : ∀ D σ H, t' D σ H → t D σ H) : PSs X e t' := ⟨fun pins s σ H D I q => h.run pins s σ H D I (w D σ H q)⟩
theorem PI.imp {X : Cx} {g e : Expr} {t t' : TI} (h : PI X g e t) (w : ∀ σ H Q, t' σ H Q → t σ H Q) : PI X g e t' := ⟨fun pins s σ H R I q => h.run pins s σ H R I (w σ H R q)⟩

/-! ### composing -/
section
variable {K : PySem.W.Frag} {ι : List Addr} {H : Hp} {env : Env} {σ : L2.St} {S : Store} {F : Fns}
/-- an expression first -/
theorem got_E {α β : Type} {e : E} {k : D → Store → Res α} {R : List Addr → Hp → α → β → Prop} {Q : β → Hp → Prop} (re : REnv K ι H env σ) (s : SR K ι S H) (g : Got K ι H ((evE F e env S).bnd k) R Q)
    {P : VK} (h : ∀ ι1 H1 d v S1, Step ι H ι1 H1 → REnv K ι1 H1 env σ → SR K ι1 S1 H1 → Rep K ι1 H1 d v → Got K ι1 H1 (k d S1) R Q → P v H1) : RdE K F e σ H P := by
  obtain ⟨d, S1, e1, g1⟩ := got_bnd g
  exact ⟨ι, env, S, re, s, d, S1, e1, fun ι1 H1 v st s1 r => h ι1 H1 d v S1 st (re.step st) s1 r (got_step st g1)⟩
theorem got_V {α β : Type} {f : Env → Store → Res D} {k : D → Store → Res α} {R : List Addr → Hp → α → β → Prop} {Q : β → Hp → Prop} (re : REnv K ι H env σ) (s : SR K ι S H) (g : Got K ι H ((f env S).bnd k) R Q)
    {P : VK} (h : ∀ ι1 H1 d v S1, Step ι H ι1 H1 → REnv K ι1 H1 env σ → SR K ι1 S1 H1 → Rep K ι1 H1 d v → Got K ι1 H1 (k d S1) R Q → P v H1) : RdV K f σ H P := by
  obtain ⟨d, S1, e1, g1⟩ := got_bnd g
  exact ⟨ι, env, S, re, s, d, S1, e1, fun ι1 H1 v st s1 r => h ι1 H1 d v S1 st (re.step st) s1 r (got_step st g1)⟩
theorem got_Es {α β : Type} {e : Es} {k : List D → Store → Res α} {R : List Addr → Hp → α → β → Prop} {Q : β → Hp → Prop} (re : REnv K ι H env σ) (s : SR K ι S H) (g : Got K ι H ((evEs F e env S).bnd k) R Q)
    {P : List V → Hp → Prop} (h : ∀ ι1 H1 ds vs S1, Step ι H ι1 H1 → REnv K ι1 H1 env σ → SR K ι1 S1 H1 → Reps K ι1 H1 ds vs → Got K ι1 H1 (k ds S1) R Q → P vs H1) : RdEs K F e σ H P := by
  obtain ⟨d, S1, e1, g1⟩ := got_bnd g
  exact ⟨ι, env, S, re, s, d, S1, e1, fun ι1 H1 v st s1 r => h ι1 H1 d v S1 st (re.step st) s1 r (got_step st g1)⟩
theorem got_B {α β : Type} {f : Env → Store → Res Bool} {k : Bool → Store → Res α} {R : List Addr → Hp → α → β → Prop} {Q : β → Hp → Prop} (re : REnv K ι H env σ) (s : SR K ι S H) (g : Got K ι H ((f env S).bnd k) R Q)
    {P : Bool → Hp → Prop} (h : ∀ ι1 H1 b S1, Step ι H ι1 H1 → REnv K ι1 H1 env σ → SR K ι1 S1 H1 → Got K ι1 H1 (k b S1) R Q → P b H1) : RdB K f σ H P := by
  obtain ⟨d, S1, e1, g1⟩ := got_bnd g
  exact ⟨ι, env, S, re, s, d, S1, e1, fun ι1 H1 v st s1 r => by subst r; exact h ι1 H1 d S1 st (re.step st) s1 (got_step st g1)⟩
theorem bnd_id {α : Type} (r : Res α) : r.bnd (fun a S => .ok a S) = r := by cases r <;> rfl
end

/-! ### targets -/
theorem PG.imp {X : Cx} {e : Expr} {t t' : TG} (h : PG X e t) (w : ∀ v σ H Q, t' v σ H Q → t v σ H Q) : PG X e t' := ⟨fun pins s σ H v u Q I r q => h.run pins s σ H v u Q I r (w v σ H Q q)⟩
theorem PGs.imp {X : Cx} {e : List Expr} {t t' : TGs} (h : PGs X e t) (w : ∀ v σ H Q, t' v σ H Q → t v σ H Q) : PGs X e t' := ⟨fun pins s σ H v u Q I r q => h.run pins s σ H v u Q I r (w v σ H Q q)⟩
def WipeOk (sl : List Nat) (σ σ' : L2.St) : Prop := ∀ own : List Nat, (∀ i ∈ sl, i ∈ own) → L2.wipe σ' own = L2.wipe σ own
def TgS (K : PySem.W.Frag) (t : Tg) : TG := fun v σ H Q => ∃ ι S env d env', REnv K ι H env σ ∧ SR K ι S H ∧ Rep K ι H d v ∧ asgT t d S env = some env' ∧ ∀ σ', REnv K ι H env' σ' → WipeOk (slotsT t) σ σ' → Q σ' H
def TgsS (K : PySem.W.Frag) (ts : Tgs) : TGs := fun vs σ H Q => ∃ ι S env ds env', REnv K ι H env σ ∧ SR K ι S H ∧ Reps K ι H ds vs ∧ asgTs ts ds S env = some env' ∧ ∀ σ', REnv K ι H env' σ' → WipeOk (slotsTs ts) σ σ' → Q σ' H
theorem wipe_set {σ : L2.St} {i : Nat} {x : Option V} : ∀ {own : List Nat}, i ∈ own → L2.wipe (σ.set i x) own = L2.wipe σ own
  | j :: js, h => by
    unfold L2.wipe
    by_cases e : i ∈ js
    · rw [wipe_set e]
    · have hij : i = j := by
        rcases List.mem_cons.mp h with z | z
        · exact z
        · exact absurd z e
      subst hij
      have out : ∀ (vs : List Nat), i ∉ vs → L2.wipe (σ.set i x) vs = (L2.wipe σ vs).set i x := by
        intro vs
        induction vs with
        | nil => intro _; rfl
        | cons w ws ih =>
          intro hw
          rw [List.mem_cons, not_or] at hw
          unfold L2.wipe
          rw [ih hw.2, List.set_comm _ _ hw.1]
      rw [out js e, List.set_set]
theorem asg_len : ∀ {ts : Tgs} {es : List Expr} {c : Cn} {env : PySem.Env}, ckTs c ts es = true → (assignEach es env).length = es.length ∧ (assignEach es env).findIdx? (·.1) = none
  | .nil, [], _, _, _ => ⟨rfl, rfl⟩
  | .nil, _ :: _, _, _, h => by simp [ckTs] at h
  | .cons _ _, [], _, _, h => by simp [ckTs] at h
  | .cons t ts, e :: es, c, env, h => by
    unfold ckTs at h
    simp only [Bool.and_eq_true] at h
    obtain ⟨h1, h2⟩ := asg_len (env := env) h.2
    rw [asg_each h.1.2]
    refine ⟨by rw [List.length_cons, List.length_cons, h1], ?_⟩
    rw [List.findIdx?_cons]
    simp [h2]
theorem asgTs_len : ∀ {ts : Tgs} {es : List Expr} {c : Cn} {ds : List D} {S : Store} {env env' : Env}, ckTs c ts es = true → asgTs ts ds S env = some env' → ds.length = es.length
  | .nil, [], _, [], _, _, _, _, _ => rfl
  | .nil, [], _, _ :: _, _, _, _, _, e => by simp [asgTs] at e
  | .nil, _ :: _, _, _, _, _, _, h, _ => by simp [ckTs] at h
  | .cons _ _, [], _, _, _, _, _, h, _ => by simp [ckTs] at h
  | .cons _ _, _ :: _, _, [], _, _, _, _, e => by simp [asgTs] at e
  | .cons t ts, e :: es, c, d :: ds, S, env, env', h, a => by
    unfold ckTs at h
    simp only [Bool.and_eq_true] at h
    unfold asgTs at a
    split at a
    · rw [List.length_cons, List.length_cons, asgTs_len h.2 a]
    · cases a
mutual
theorem pg_T {X : Cx} {c : Cn} (hc : X.calm = true) (hN : X.N = c.N) (nd : c.N.Nodup) (hs : X.env.scope = c.sc) : ∀ (t : Tg) (ex : Expr), ckT c t ex = true → (∀ i ∈ slotsT t, ∀ x, c.N[i]? = some x → X.fn x = true ∨ X.env.scope.names.lookup x = some .local) → PG X ex (TgS X.K t)
  | .nm i, ex, h, hf => by
    unfold ckT at h
    split at h
    · rename_i x p
      rw [Bool.and_eq_true] at h
      have hi : X.N[i]? = some x := by rw [hN]; exact of_decide_eq_true h.1
      refine PG.imp (pg_name (by rw [hN]; exact nd) hi (by rw [hs]; exact loc_of h.2) (hf i (by unfold slotsT; simp) x (of_decide_eq_true h.1))) fun v σ H Q q => ?_
      obtain ⟨ι, S, env, d, env', re, sr, r, e, q⟩ := q
      unfold asgT at e
      cases e
      refine q _ (re.set r) fun own ho => ?_
      exact wipe_set (ho i (by unfold slotsT; simp))
    · cases h
  | .tp ts, ex, h, hf => by
    unfold ckT at h
    split at h
    · rename_i es k p
      obtain ⟨l1, l2⟩ := asg_len (env := X.env) h
      refine PG.imp (pg_tup hc (pgs_T hc hN nd hs ts es h (fun i hi => hf i (by unfold slotsT; exact hi))) l1 l2) fun v σ H Q q => ?_
      obtain ⟨ι, S, env, d, env', re, sr, r, e, q⟩ := q
      unfold asgT at e
      split at e
      · obtain ⟨a, xs, rfl, hq, rr⟩ := rep_tup r
        refine ⟨a, xs, rfl, hq, by rw [← rr.len, asgTs_len h e], ι, S, env, _, env', re, sr, rr, e, fun σ' r' w => q σ' r' ?_⟩
        unfold slotsT
        exact w
      · cases e
    · cases h
theorem pgs_T {X : Cx} {c : Cn} (hc : X.calm = true) (hN : X.N = c.N) (nd : c.N.Nodup) (hs : X.env.scope = c.sc) : ∀ (ts : Tgs) (es : List Expr), ckTs c ts es = true → (∀ i ∈ slotsTs ts, ∀ x, c.N[i]? = some x → X.fn x = true ∨ X.env.scope.names.lookup x = some .local) → PGs X es (TgsS X.K ts)
  | .nil, [], _, _ => by
    refine PGs.imp pgs_nil fun vs σ H Q q => ?_
    obtain ⟨ι, S, env, ds, env', re, sr, r, e, q⟩ := q
    cases ds with
    | nil =>
      unfold asgTs at e
      cases e
      exact ⟨r.unnil, q σ re fun own _ => rfl⟩
    | cons d ds => unfold asgTs at e; cases e
  | .nil, _ :: _, h, _ => by simp [ckTs] at h
  | .cons _ _, [], h, _ => by simp [ckTs] at h
  | .cons t ts, x :: es, h, hf => by
    unfold ckTs at h
    simp only [Bool.and_eq_true] at h
    refine PGs.imp (pgs_cons (pg_T hc hN nd hs t x h.1.1 (fun i hi => hf i (by unfold slotsTs; exact List.mem_append_left _ hi))) (pgs_T hc hN nd hs ts es h.2 (fun i hi => hf i (by unfold slotsTs; exact List.mem_append_right _ hi)))
      (by rw [asg_each h.1.2]; rfl)) fun vs σ H Q q => ?_
    obtain ⟨ι, S, env, ds, env', re, sr, r, e, q⟩ := q
    cases ds with
    | nil => unfold asgTs at e; cases e
    | cons d ds =>
      unfold asgTs at e
      split at e
      · rename_i env1 e1
        obtain ⟨v, w, rfl, r1, r2⟩ := r.uncons
        refine ⟨v, w, rfl, ι, S, env, d, env1, re, sr, r1, e1, fun σ1 re1 w1 => ⟨ι, S, env1, ds, env', re1, sr, r2, e, fun σ2 re2 w2 => q σ2 re2 fun own ho => ?_⟩⟩
        unfold slotsTs at ho
        rw [w2 own fun i hi => ho i (List.mem_append_right _ hi), w1 own fun i hi => ho i (List.mem_append_left _ hi)]
      · cases e
end
end
end SX
namespace SX
open PySem PySem.Spec PyProof.Rows L2
noncomputable section
open Classical
variable [Tabs]

/-! ### walks -/
structure Walks (K : PySem.W.Frag) (J : L2.It) (w : Walk) (ι0 : List Addr) (H0 : Hp) : Prop where
  go : ∀ (i : Nat) ι H S, Mono ι0 H0 ι H → SR K ι S H → w.here S → i < w.items.length → J.go i H
  yld : ∀ (i : Nat) ι H S x H' d, Mono ι0 H0 ι H → SR K ι S H → w.here S → w.items[i]? = some d → J.yld i H x H' → Rep K ι H' d x ∧ Step ι H ι H' ∧ SR K ι S H'
  stop : ∀ (i : Nat) ι H S, Mono ι0 H0 ι H → SR K ι S H → w.here S → w.items.length ≤ i → J.stop i H
theorem walks_tup {K : PySem.W.Frag} {ι : List Addr} {H : Hp} {ds : List D} {a : Addr} {xs : List V} (h : SqT K H a xs) (r : Reps K ι H ds xs) : Walks K (Itt K a) ⟨ds, none⟩ ι H where
  go := fun i ι1 H1 S m _ _ hi => by
    have hx : i < xs.length := by rw [← r.len]; exact hi
    exact ⟨xs, xs[i], m.sqT h, List.getElem?_eq_getElem hx⟩
  yld := fun i ι1 H1 S x H' d m s _ e y => by
    obtain ⟨rfl, y⟩ := y
    obtain ⟨v, ev, rv⟩ := (Reps.mono m ds xs r).get e
    have e2 := y xs (m.sqT h)
    rw [ev] at e2
    cases e2
    exact ⟨rv, Step.refl, s⟩
  stop := fun i ι1 H1 S m _ _ hi => ⟨xs, m.sqT h, by rw [← r.len]; exact hi⟩
theorem walks_rls {K : PySem.W.Frag} {ι : List Addr} {H : Hp} {ds : List D} {a : Addr} {xs : List V} (h : RoL K H a xs) (r : Reps K ι H ds xs) : Walks K (Itl K a) ⟨ds, none⟩ ι H where
  go := fun i ι1 H1 S m _ _ hi => by
    have hx : i < xs.length := by rw [← r.len]; exact hi
    exact ⟨xs, xs[i], (m.roL h).seq, List.getElem?_eq_getElem hx⟩
  yld := fun i ι1 H1 S x H' d m s _ e y => by
    obtain ⟨rfl, y⟩ := y
    obtain ⟨v, ev, rv⟩ := (Reps.mono m ds xs r).get e
    have e2 := y xs (m.roL h).seq
    rw [ev] at e2
    cases e2
    exact ⟨rv, Step.refl, s⟩
  stop := fun i ι1 H1 S m _ _ hi => ⟨xs, (m.roL h).seq, by rw [← r.len]; exact hi⟩
theorem walks_lst {K : PySem.W.Frag} {ι : List Addr} {H : Hp} {ds : List D} {a : Addr} {l : Nat} (h : ι[l]? = some a) : Walks K (Itl K a) ⟨ds, some l⟩ ι H where
  go := fun i ι1 H1 S m s e hi => by
    obtain ⟨b, xs, e1, q, r⟩ := s.lst e
    rw [m.get h] at e1
    cases e1
    have hx : i < xs.length := by rw [← r.len]; exact hi
    exact ⟨xs, xs[i], SqL.of q, List.getElem?_eq_getElem hx⟩
  yld := fun i ι1 H1 S x H' d m s e0 e y => by
    obtain ⟨rfl, y⟩ := y
    obtain ⟨b, xs, e1, q, r⟩ := s.lst e0
    rw [m.get h] at e1
    cases e1
    obtain ⟨v, ev, rv⟩ := r.get e
    have e2 := y xs (SqL.of q)
    rw [ev] at e2
    cases e2
    exact ⟨rv, Step.refl, s⟩
  stop := fun i ι1 H1 S m s e hi => by
    obtain ⟨b, xs, e1, q, r⟩ := s.lst e
    rw [m.get h] at e1
    cases e1
    exact ⟨xs, SqL.of q, by rw [← r.len]; exact hi⟩
theorem walks_rng {K : PySem.W.Frag} {ι : List Addr} {H : Hp} (lo : Int) (n : Nat) : Walks K (Itr lo n) ⟨(List.range n).map fun (k : Nat) => .int (lo + (k : Int)), none⟩ ι H where
  go := fun i ι1 H1 S m s e hi => by
    show i < n
    simpa using hi
  yld := fun i ι1 H1 S x H' d m s e0 e y => by
    obtain ⟨rfl, rfl⟩ := y
    have hi : i < n := by
      have := (List.getElem?_eq_some_iff.mp e).1
      simpa using this
    rw [List.getElem?_map, List.getElem?_range hi] at e
    cases e
    exact ⟨to_int _, Step.refl, s⟩
  stop := fun i ι1 H1 S m s e hi => by
    show n ≤ i
    simpa using hi
def RdI (K : PySem.W.Frag) (F : Fns) (it : It) : TI := fun σ H R => ∃ ι env S w S1, REnv K ι H env σ ∧ SR K ι S H ∧ evIt F it env S = .ok w S1 ∧ ∀ ι1 H1 J, Step ι H ι1 H1 → SR K ι1 S1 H1 → Walks K J w ι1 H1 → R J H1

/-! ### a list that is being made -/
theorem step_out {ι ι' : List Addr} {H H' : Hp} {D : Addr} {o : HO} (s : Step ι H ι' H') (h : H D = none) : Step ι H ι' (upd H' D o) where
  pre := s.pre
  tup := fun a xs e => by rw [upd_ne (ne_of_none e h)]; exact s.tup a xs e
  frz := fun a x u e => by rw [upd_ne (ne_of_none e h)]; exact s.frz a x u e
  keep := fun a x e n nt => by rw [upd_ne (ne_of_none e h)]; exact s.keep a x e n nt
  tabs := fun a ps e => by
    obtain ⟨ps', h', t⟩ := s.tabs a ps e
    exact ⟨ps', by rw [upd_ne (ne_of_none e h)]; exact h', t⟩
  new := s.new
theorem mono_out {ι : List Addr} {H : Hp} {D : Addr} {xs ys : List V} (h : H D = some (.lst xs)) : Mono ι H ι (upd H D (.lst ys)) where
  pre := ⟨[], by simp⟩
  tup := fun b zs e => by rw [upd_ne (ne_of e h (by intro z; cases z))]; exact e
  frz := fun b x u e => by rw [upd_ne (ne_of e h (by intro z; cases z))]; exact e
theorem SR.out {K : PySem.W.Frag} {ι : List Addr} {S : Store} {H : Hp} {p : Addr} {xs ys : List V} (s : SR K ι S H) (n : p ∉ ι) (h : H p = some (.lst xs)) : SR K ι S (upd H p (.lst ys)) :=
  ⟨s.nd, s.len, fun l x a e1 e2 => by
    have ha : a ≠ p := fun z => n (z ▸ List.mem_of_getElem? e2)
    have q := s.at_ l x a e1 e2
    cases x with
    | lst ds =>
      obtain ⟨zs, h1, h2⟩ := q
      exact ⟨zs, by rw [upd_ne ha]; exact h1, Reps.mono (mono_out h) ds zs h2⟩, fun q hq => by
    obtain ⟨ps, e, t⟩ := s.tb q hq
    exact ⟨ps, by rw [upd_ne (fun z => by rw [z, h] at e; cases e)]; exact e, t⟩⟩
theorem SR.add {K : PySem.W.Frag} {ι : List Addr} {S : Store} {H : Hp} {p : Addr} {xs : List V} {ds : List D} (s : SR K ι S H) (n : p ∉ ι) (h : H p = some (.lst xs)) (r : Reps K ι H ds xs) : SR K (ι ++ [p]) (S ++ [.lst ds]) H := by
  have m : Mono ι H (ι ++ [p]) H := ⟨⟨[p], rfl⟩, fun _ _ e => e, fun _ _ _ e => e⟩
  refine ⟨?_, by rw [List.length_append, List.length_append, s.len]; rfl, fun l x a e1 e2 => ?_, s.tb⟩
  · rw [List.nodup_append]
    refine ⟨s.nd, by simp, fun a ha b hb e => ?_⟩
    rw [List.mem_singleton.mp hb] at e
    exact n (e ▸ ha)
  · by_cases hl : l < S.length
    · rw [List.getElem?_append_left hl] at e1
      rw [List.getElem?_append_left (by rw [s.len]; exact hl)] at e2
      have q := s.at_ l x a e1 e2
      cases x with
      | lst es =>
        obtain ⟨zs, h1, h2⟩ := q
        exact ⟨zs, h1, Reps.mono m es zs h2⟩
    · have hl2 : l = S.length := by
        have := (List.getElem?_eq_some_iff.mp e1).1
        rw [List.length_append] at this
        simp at this
        omega
      subst hl2
      rw [List.getElem?_append_right (Nat.le_refl _)] at e1
      rw [List.getElem?_append_right (by rw [s.len]; exact Nat.le_refl _), s.len] at e2
      simp at e1 e2
      subst e1 e2
      exact ⟨xs, h, Reps.mono m ds xs r⟩
theorem step_add {ι ι' : List Addr} {H H' : Hp} {D : Addr} (s : Step ι H ι' H') (h : H D = none) : Step ι H (ι' ++ [D]) H' where
  pre := by
    obtain ⟨t, e⟩ := s.pre
    exact ⟨t ++ [D], by rw [e, List.append_assoc]⟩
  tup := s.tup
  frz := s.frz
  keep := s.keep
  tabs := s.tabs
  new := fun a h1 h2 => by
    rcases List.mem_append.mp h1 with z | z
    · exact s.new a z h2
    · rw [List.mem_singleton.mp z]; exact h
theorem wipe_idem (σ : L2.St) (own : List Nat) : L2.wipe (L2.wipe σ own) own = L2.wipe σ own := by
  have : ∀ (vs : List Nat) (τ : L2.St), (∀ i ∈ vs, i ∈ own) → L2.wipe (L2.wipe τ vs) own = L2.wipe τ own := by
    intro vs
    induction vs with
    | nil => intro τ _; rfl
    | cons v vs ih =>
      intro τ h
      show L2.wipe ((L2.wipe τ vs).set v none) own = _
      rw [wipe_set (h v List.mem_cons_self), ih τ fun i hi => h i (List.mem_cons_of_mem _ hi)]
  exact this own σ fun _ h => h
theorem wipeE_idem : True := trivial

/-- the reading of a list comprehension -/
theorem lc_read {K : PySem.W.Frag} {F : Fns} {elt : E} {t : Tg} {it : It} {cs : Es} {own : List Nat} {σ : L2.St} {H : Hp} {Q : VK} (hsl : ∀ i ∈ slotsT t, i ∈ own)
    (h : RdE K F (.lc elt t it cs own) σ H Q) : tLc (RdI K F it) (TgS K t) (RdB K fun e s => evTs F cs e s) (RdE K F elt) own σ H Q := by
  obtain ⟨ι, env, S, re, sr, g⟩ := h
  unfold evE at g
  obtain ⟨w, S1, ew, g1⟩ := got_bnd g
  obtain ⟨ds, S2, el, g2⟩ := got_bnd g1
  refine ⟨ι, env, S, w, S1, re, sr, ew, fun ι1 H1 J st1 sr1 wk D hD => ?_⟩
  have re1 := re.step st1
  have g3 := got_step st1 g2
  let Wi : Nat → Hp → Prop := fun i Hc => ∃ ιc Sc acc accV, Step ι1 H1 ιc Hc ∧ D ∉ ιc ∧ Hc D = some (.lst accV) ∧ SR K ιc Sc Hc ∧ Reps K ιc Hc acc accV ∧ i ≤ w.items.length ∧
    lcL w t env own (fun e s => evTs F cs e s) (fun e s => evE F elt e s) (w.items.drop i) acc Sc = .ok ds S2
  refine ⟨fun i m Hc => m = w.items.length - i ∧ Wi i Hc, ⟨w.items.length, by simp, ι1, S1, [], [], step_laid hD, sr1.notMem hD, upd_same, sr1.laid hD, Reps.nil, Nat.zero_le _, by simpa using el⟩, ?_⟩
  rintro i m Hc ⟨rfl, ιc, Sc, acc, accV, stc, nD, eD, src, ra, hi, eL⟩
  by_cases hlt : i < w.items.length
  · refine .inr ?_
    rw [List.drop_eq_getElem_cons hlt] at eL
    unfold lcL at eL
    split at eL
    · rename_i here
      split at eL
      · rename_i env1 e1
        refine ⟨wk.go i ιc Hc Sc stc.toMono src here hlt, Wi (i + 1), fun H' hw => ⟨w.items.length - (i + 1), by omega, rfl, hw⟩, fun x Hy hy => ?_⟩
        obtain ⟨rd, sty, sry⟩ := wk.yld i ιc Hc Sc x Hy w.items[i] stc.toMono src here (List.getElem?_eq_getElem hlt) hy
        have stcy := stc.trans sty
        have eDy : Hy D = some (.lst accV) := sty.keep D _ eD nD (fun ps z => by cases z)
        have ray := Reps.step sty acc accV ra
        refine ⟨ιc, Sc, wipeE env own, w.items[i], env1, (re1.step stcy).wiped own, sry, rd, e1, fun σ1 re2 wok => ⟨?_, ?_⟩⟩
        · rw [wok own hsl]
          exact wipe_idem σ own
        · obtain ⟨b, S3, eb, el2⟩ := bnd_eq_ok eL
          refine ⟨ιc, env1, Sc, re2, sry, b, S3, eb, fun ι3 H3 b' st3 sr3 hb => ?_⟩
          subst hb
          have eD3 : H3 D = some (.lst accV) := st3.keep D _ eDy nD (fun ps z => by cases z)
          have nD3 : D ∉ ι3 := fun z => by
            have := st3.new D z nD
            rw [eDy] at this
            cases this
          have ra3 := Reps.step st3 acc accV ray
          cases b with
          | true =>
            rw [if_pos rfl] at el2 ⊢
            obtain ⟨y, S4, ey, el3⟩ := bnd_eq_ok el2
            refine ⟨ι3, env1, S3, re2.step st3, sr3, y, S4, ey, fun ι4 H4 yv st4 sr4 ry => ?_⟩
            split at el3
            · rename_i hl
              have eD4 : H4 D = some (.lst accV) := st4.keep D _ eD3 nD3 (fun ps z => by cases z)
              have nD4 : D ∉ ι4 := fun z => by
                have := st4.new D z nD3
                rw [eD3] at this
                cases this
              have ra4 := Reps.step st4 acc accV ra3
              refine ⟨accV, eD4, by rw [← line_eq, ← ra4.len]; exact hl, ι4, S4, acc ++ [y], accV ++ [yv], step_out ((stcy.trans st3).trans st4) hD, nD4, upd_same, sr4.out nD4 eD4, ?_, hlt, el3⟩
              exact Reps.mono (mono_out eD4) _ _ (ra4.append (.cons ry .nil))
            · cases el3
          | false =>
            rw [if_neg Bool.false_ne_true] at el2 ⊢
            exact ⟨ι3, S3, acc, accV, stcy.trans st3, nD3, eD3, sr3, ra3, hlt, el2⟩
      · cases eL
    · cases eL
  · have hi2 : i = w.items.length := by omega
    subst hi2
    rw [List.drop_length] at eL
    unfold lcL at eL
    split at eL
    · rename_i here
      cases eL
      refine .inl ⟨wk.stop _ ιc Hc _ stc.toMono src here (Nat.le_refl _), ?_⟩
      unfold new at g3
      refine got_ok g3 (ιc ++ [D]) Hc (.ref D) (step_add stc hD) (src.add nD eD ra) ?_
      unfold Rep
      exact ⟨D, rfl, new_get src D⟩
    · cases eL

/-! ### the tests' own forms -/
theorem pt_ite {X : Cx} {c a b : Expr} {pos : Pos} {tA tB tC : TT} (hc : PT X c tA) (ha : PT X a tB) (hb : PT X b tC) : PT X (.IfExp c a b pos) (fun σ H Q => tA σ H fun k H1 => if k = true then tB σ H1 Q else tC σ H1 Q) := by
  refine ⟨fun pins s σ H Q I h => ?_⟩
  show wpAny _ _ (do if ← isTrue c X.env (eval c X.env) then isTrue a X.env (eval a X.env) else isTrue b X.env (eval b X.env)) _ _ _
  refine wpAny_bind (thn (hc.run pins s σ H _ I h) fun k s1 ⟨H1, I1, q⟩ => ?_)
  cases k with
  | true => exact ha.run pins s1 σ H1 Q I1 q
  | false => exact hb.run pins s1 σ H1 Q I1 q
end
end SX
namespace SX
open PySem PySem.Spec PyProof.Rows L2
noncomputable section
open Classical
variable [Tabs]

theorem boot_pr (p : Pr) : bootBuiltins (prN p) = some (match p with | .abs => .builtin "abs" | .int => .type "int" | .len => .builtin "len" | .max => .builtin "max" | .min => .builtin "min" | .tuple => .type "tuple" | .list => .type "list" | .any => .builtin "any") := by
  cases p <;> decide +kernel
theorem boot_ty (t : Ty) : bootBuiltins (tyN t : Str) = some (.type (tyN t)) := by
  cases t <;> decide +kernel
theorem boot_isi : bootBuiltins ("isinstance" : Str) = some (.builtin "isinstance") := by decide +kernel
theorem bl_of {c : Cn} {F : Fns} {X : Cx} {x : Str} (f : Fits c F X) (h : blB c x = true) : Gl X x ∧ X.mg x = none ∧ x ≠ "__name__" ∧ (x == ("__debug__" : Str)) = false := by
  unfold blB at h
  simp only [Bool.and_eq_true] at h
  obtain ⟨g1, g2⟩ := gl_of h.1.1
  refine ⟨?_, f.bl x h.1.2, ?_, g2⟩
  · show X.env.scope.names.lookup x = _
    rw [f.sc]
    exact g1
  · intro e
    have := h.2
    rw [e] at this
    simp at this
theorem Fits.blk {c : Cn} {F : Fns} {X : Cx} (f : Fits c F X) (s : Shared) (H : Hp) (scope : Scope) (C : Addr) (cl : List (Str × Addr)) (fp : List Addr) :
    Fits { c with sc := relS scope c.sc } F (X.blk s H scope (compEnvC scope cl C X.env) fp) where
  calm := f.calm
  N := f.N
  nd := f.nd
  sc := by
    show relS scope X.env.scope = relS scope c.sc
    rw [f.sc]
  un := f.un
  xe := rfl
  bl := f.bl
  co := fun x k h => ⟨(f.co x k h).ex⟩
  gx := f.gx
  rm := let ⟨k, h1, h2, h3⟩ := f.rm; ⟨k, h1, h2, fun g hg => ⟨(h3 g hg).ex⟩⟩

/-! ### calls of defs -/
theorem kw_names {kws : List Keyword} {ns : List Str} (h : kwNames kws = some ns) (pos : Pos) (env : PySem.Env) :
    (backToKw pos (keywordEach kws env)).all (·.1.isSome) = true ∧ (backToKw pos (keywordEach kws env)).filterMap (·.1) = ns ∧ (backToKw pos (keywordEach kws env)).any (·.1.isNone) = false := by
  induction kws generalizing ns with
  | nil => unfold kwNames at h; cases h; exact ⟨rfl, rfl, rfl⟩
  | cons k ks ih =>
    obtain ⟨nm, v, p⟩ := k
    cases nm with
    | none => unfold kwNames at h; cases h
    | some n =>
      unfold kwNames at h
      obtain ⟨ms, e, rfl⟩ := Option.map_eq_some_iff.mp h
      obtain ⟨h1, h2, h3⟩ := ih e
      unfold backToKw at h1 h2 h3 ⊢
      unfold keywordEach
      refine ⟨?_, ?_, ?_⟩
      · rw [List.map_cons, List.all_cons, h1]; rfl
      · rw [List.map_cons, List.filterMap_cons, h2]
      · rw [List.map_cons, List.any_cons, h3]; rfl
theorem vals_perm {vs : List V} {us : List Value} (r : Vals vs us) : ∀ (perm : List Nat), (∀ i ∈ perm, i < vs.length) → Vals (permV perm vs) (permV perm us)
  | [], _ => .nil
  | i :: is, h => by
    have hi : i < vs.length := h i List.mem_cons_self
    obtain ⟨u, eu, ru⟩ := r.get (List.getElem?_eq_getElem hi)
    have ih := vals_perm r is fun j hj => h j (List.mem_cons_of_mem _ hj)
    unfold permV at ih ⊢
    rw [List.filterMap_cons, List.filterMap_cons, List.getElem?_eq_getElem hi, eu]
    exact .cons ru ih
theorem reps_perm {K : PySem.W.Frag} {ι : List Addr} {H : Hp} {ds : List D} {vs : List V} (r : Reps K ι H ds vs) : ∀ (perm : List Nat), (∀ i ∈ perm, i < vs.length) → Reps K ι H (permD perm ds) (permV perm vs)
  | [], _ => Reps.nil
  | i :: is, h => by
    have hi : i < ds.length := by rw [r.len]; exact h i List.mem_cons_self
    obtain ⟨v, ev, rv⟩ := r.get (List.getElem?_eq_getElem hi)
    have ih := reps_perm r is fun j hj => h j (List.mem_cons_of_mem _ hj)
    unfold permD permV at ih ⊢
    rw [List.filterMap_cons, List.filterMap_cons, List.getElem?_eq_getElem hi, ev]
    exact .cons rv ih
/-- the callee runs, its arguments by keywords too -/
theorem run_kw {X : Cx} {pins : List (Addr × Obj)} {σ : L2.St} {H : Hp} {s : Shared} {Q : VK} {us ws : List Value} {vs zs : List V} {k n : Nat} {f : Addr} {fd : FuncData} {ps ks : List Str} {perm : List Nat} {sp : Sp}
    (F : FnOk X.prog X.w X.K X.mg X.base CX0 k f fd ps sp) (hr : Room k X.A) (hb : KB fd ps n ks perm) (I : Inv X pins σ H s) (r : Vals vs us) (rz : Vals zs ws) (l1 : vs.length = n) (l2 : zs.length = ks.length)
    (h : sp (permV perm (vs ++ zs)) H Q E0) : wpAny (model X.prog X.w) X.A (call (.ref f) us (ks.zip ws)) (EP X pins σ Q) X.xe s := by
  have r2 := vals_perm (r.append rz) perm fun i hi => by
    rw [List.length_append, l1, l2]
    exact hb.lt i hi
  refine wpAny_call (codeAny_mono (F.run X.A X.stack s H ⟨us, ks.zip ws⟩ (permV perm (us ++ ws)) (permV perm (vs ++ zs)) Q E0 hr I.env0 (.of_eq (hb.to us ws (r.length.symm.trans l1) (rz.length.symm.trans l2))) r2 h) fun r s' hq => ?_)
  cases r with
  | error e => exact hq.elim
  | ok fl =>
    cases fl with
    | ret u => exact I.after hq
    | next => exact False.elim hq
    | brk => exact False.elim hq
    | cont => exact False.elim hq
theorem pe_kw {X : Cx} {x : Str} {p pos : Pos} {e : Expr} {es : List Expr} {kws : List Keyword} {t tk : TA} {k n : Nat} {f : Addr} {fd : FuncData} {ps ks : List Str} {perm : List Nat} {sp : Sp}
    (F : FnOk X.prog X.w X.K X.mg X.base CX0 k f fd ps sp) (hr : Room k X.A) (hg : Gl X x) (hdb : (x == ("__debug__" : Str)) = false) (hm : X.mg x = some (.ref f)) (hk : PySem.W.keepIn X.K (.ref f) = true) (hb : KB fd ps n ks perm)
    (ha : PA X (e :: es) t) (hkw : PK X kws tk) (hns : kwNames kws = some ks) (hst : noStar e = true) (hpl : (backTo pos (starEach (e :: es) X.env)).any (·.1) = false) :
    PE X (.Call (.Name x p) (e :: es) kws pos) (fun σ H Q => t σ H fun vs H1 => tk σ H1 fun zs H2 => vs.length = n ∧ zs.length = ks.length ∧ sp (permV perm (vs ++ zs)) H2 Q E0) := by
  refine ⟨fun pins s σ H Q I h => ?_⟩
  obtain ⟨n1, n2, n3⟩ := kw_names hns pos X.env
  refine wpAny_Call_Name_kw (ld_glob I hg hm ?_ hdb)
  refine PySem.W.callWith_KW (first := []) (h₀ := X.base) I.ok.mod.kin hk n1 (thn (ha.run pos pins s σ H _ I h) fun us s1 ⟨vs, H1, I1, r, q⟩ => ?_) (by rw [hpl, n3]; rfl) (star_each hst)
  refine thn (hkw.run pos pins s1 σ H1 _ I1 q) fun ws s2 ⟨zs, H2, I2, rz, l1, l2, q2⟩ => ⟨I2.kIn, ?_⟩
  rw [n2]
  exact run_kw F hr hb I2 r rz l1 l2 q2
theorem pe_kw0 {X : Cx} {x : Str} {p pos : Pos} {kws : List Keyword} {tk : TA} {k : Nat} {f : Addr} {fd : FuncData} {ps ks : List Str} {perm : List Nat} {sp : Sp}
    (F : FnOk X.prog X.w X.K X.mg X.base CX0 k f fd ps sp) (hr : Room k X.A) (hg : Gl X x) (hdb : (x == ("__debug__" : Str)) = false) (hm : X.mg x = some (.ref f)) (hk : PySem.W.keepIn X.K (.ref f) = true) (hb : KB fd ps 0 ks perm)
    (hkw : PK X kws tk) (hns : kwNames kws = some ks) :
    PE X (.Call (.Name x p) [] kws pos) (fun σ H Q => tk σ H fun zs H2 => zs.length = ks.length ∧ sp (permV perm zs) H2 Q E0) := by
  refine ⟨fun pins s σ H Q I h => ?_⟩
  obtain ⟨n1, n2, n3⟩ := kw_names hns pos X.env
  refine wpAny_Call_Name_kw (ld_glob I hg hm ?_ hdb)
  refine PySem.W.callWith_KW0 (first := []) (h₀ := X.base) I.ok.mod.kin hk n1 ?_ (by rw [n3]; rfl)
  refine thn (hkw.run pos pins s σ H _ I h) fun ws s2 ⟨zs, H2, I2, rz, l2, q2⟩ => ⟨I2.kIn, ?_⟩
  rw [n2]
  exact run_kw (us := []) (vs := []) F hr hb I2 .nil rz rfl l2 q2
end
end SX
namespace GX
open PySem PySem.Spec PyProof.Rows L2 GenW

/-- the context of a generator expression that was made at s, its iterator's objects at fp -/
abbrev gcx (X : Cx) (s : Shared) (H : Hp) (cenv : Env) (A : Around) (fp : List Addr) : Cx :=
  { X with A := A, s_0 := s, H_0 := H, env := cenv, outer := X.stack, stack := cenv :: X.stack, ex := fp, fn := fun _ => false, pn := [], xe := fun _ _ => False }
/-- the names of a generator expression's scope: its own (with their places in N), or captured -/
structure GenOk (N : List Str) (sc scope : Scope) (own : List (Str × Nat)) : Prop where
  kind : scope.kind = .function
  co : scope.isCoroutine = false
  dot : scope.names.lookup (".0" : Str) = some NameKind.local
  dotN : (".0" : Str) ∉ N
  cell : ∀ y ∈ scope.names, y.2 ≠ .cell
  uniq : ∀ y ∈ scope.names, scope.names.lookup y.1 = some y.2
  ix : ∀ p ∈ own, N[p.2]? = some p.1
  free : ∀ y ∈ scope.names, y.2 = .free → sc.names.lookup y.1 = some .cell ∨ sc.names.lookup y.1 = some .free
  own : ∀ y ∈ scope.names, y.2 = .local → y.1 ∈ own.map (·.1) ∨ y.1 ∉ N
section
variable {X : Cx} {pins : List (Addr × Obj)} {σ : L2.St} {H : Hp} {s : Shared}
theorem gen_start {scope : Scope} {own : List (Str × Nat)} {fp : List Addr} {cenv : Env} {A : Around} {C : Addr} {s4 : Shared} {m : Str → Option Value} (I : Inv X pins σ H s) (ok : GenOk X.N X.env.scope scope own) (hN : X.N.Nodup) (hc : X.calm = true → A.handled = none)
    (hfp : ∀ b ∈ fp, FpOk X pins H b ∧ b < s.heap.objs.size) (hsc : cenv.scope = scope) (hL : cenv.locals = C) (hcl : cenv.cells = cloFrom X.env.cells scope.names []) (hgl : cenv.globals = X.env.globals) (hbi : cenv.builtins = builtinsNs) (hfr : cenv.frame = some C)
    (hA : A.frames = some (cenv :: X.stack)) (hC : s.heap.objs.size ≤ C) (kp : ∀ b o, s.heap.get? b = some o → s4.heap.get? b = some o) (hn : s4.heap.Ns C m) (hos : s4.os = s.os) (hb : AllBare s4.gens) :
    Inv (gcx X s H cenv A fp) [] (wipe σ (own.map (·.2))) H s4 := by
  have hfree : ∀ y ∈ scope.names, y.2 = .free → ∃ c, X.env.cells.lookup y.1 = some c := fun y hy e => by
    rcases ok.free y hy e with k | k
    · exact I.ok.has _ (.inl k)
    · exact I.ok.has _ (.inr k)
  have cm : ∀ {y c}, (y, c) ∈ cloFrom X.env.cells scope.names [] → X.env.cells.lookup y = some c ∧ c < s.heap.objs.size := fun {y c} hm => by
    rcases cloFrom_mem hm with hm | ⟨h1, rfl⟩
    · cases hm
    · obtain ⟨c, hc⟩ := hfree _ h1 rfl
      rw [hc]
      obtain ⟨w, z⟩ := I.cell _ _ hc
      exact ⟨rfl, z.lt⟩
  have mem : ∀ {y c}, cenv.cells.lookup y = some c → X.env.cells.lookup y = some c ∧ c < s.heap.objs.size := fun {y c} e => by
    rw [hcl] at e
    exact cm (PySem.mem_of_lookup e)
  have look : ∀ {y}, scope.names.lookup y = some .free → ∃ c, cenv.cells.lookup y = some c ∧ X.env.cells.lookup y = some c := fun {y} hl => by
    have hy : (y, NameKind.free) ∈ scope.names := PySem.mem_of_lookup hl
    obtain ⟨c', e'⟩ := mem_lookup (cloFrom_has (cells := X.env.cells) (acc := []) hy)
    rw [← hcl] at e'
    exact ⟨c', e', (mem e').1⟩
  have nocell : ∀ {y}, scope.names.lookup y ≠ some .cell := fun {y} e => ok.cell _ (PySem.mem_of_lookup e) rfl
  have okB : (gcx X s H cenv A fp).Ok := by
    refine ⟨I.ok.mod, by show cenv.scope.kind = _; rw [hsc]; exact ok.kind, by show cenv.globals = _; rw [hgl]; exact I.ok.glob, hbi, by show s.heap.objs.size ≤ cenv.locals; rw [hL]; exact hC,
      fun y z c e1 e2 => ?_, fun y hy => ?_, fun y c z e => ?_, hc, hA, .inr ⟨rfl, ?_⟩, fun b hb => ⟨?_, fun y c e z => ?_⟩, I.bs, Nat.le_trans I.ok.bsz I.sz, fun b o e hb => ?_, fun b hb z => ?_, I.stack, I.stkFree⟩
    · exact I.ok.inj y z c (mem e1).1 (mem e2).1
    · show ∃ c, cenv.cells.lookup y = some c
      have hy : cenv.scope.names.lookup y = some .cell ∨ cenv.scope.names.lookup y = some .free := hy
      rw [hsc] at hy
      rcases hy with hy | hy
      · exact absurd hy nocell
      · obtain ⟨c, h1, _⟩ := look hy
        exact ⟨c, h1⟩
    · exact absurd (show false = true from z) (by decide)
    · show cenv.frame = some cenv.locals
      rw [hfr, hL]
    · show b ≠ cenv.locals
      rw [hL]
      exact Nat.ne_of_lt (Nat.lt_of_lt_of_le (hfp b hb).2 hC)
    · exact (hfp b hb).1.2.2.2.2.1 y c (mem e).1 z
    · rcases (hfp b hb).1.2.2.2.1 with z | z
      · exact I.ok.noex b o e z
      · exact absurd (Nat.lt_of_lt_of_le (Heap.lt_size e) (Nat.le_trans I.ok.bsz z)) (Nat.lt_irrefl _)
    · rcases List.mem_cons.mp (I.stkSub b z) with z | z
      · exact (hfp b hb).1.2.1 z
      · exact (hfp b hb).1.2.2.1 z
  refine ⟨okB, hos, hb, Un.kept kp, ⟨m, ?_, fun i y av e1 e2 e3 => ?_⟩, fun y c e => ?_, ?_, fun y c e => ?_, fun p hp => ?_, I.hok.kept kp, by rw [wipe_length]; exact I.len⟩
  · show Heap.Ns _ cenv.locals _
    rw [hL]
    exact hn
  · obtain ⟨e2, hne⟩ := wipe_some e2
    have e3 : cenv.scope.names.lookup y = some .local ∨ cenv.scope.names.lookup y = some .cell ∨ cenv.scope.names.lookup y = some .free := e3
    rw [hsc] at e3
    have hfr' : scope.names.lookup y = some .free := by
      rcases e3 with e3 | e3 | e3
      · rcases ok.own _ (PySem.mem_of_lookup e3) rfl with e' | e'
        · obtain ⟨p, hp, hpy⟩ := List.mem_map.mp e'
          have e4 := ok.ix p hp
          have : p.1 = y := hpy
          rw [this] at e4
          exact absurd (List.mem_map.mpr ⟨p, hp, nodup_ix hN e4 e1⟩) hne
        · exact absurd (List.mem_of_getElem? e1) e'
      · exact absurd e3 nocell
      · exact e3
    obtain ⟨mX, hnX, hl⟩ := I.loc
    have hvis : Vis X.env.scope y := (ok.free _ (PySem.mem_of_lookup hfr') rfl).elim (fun k => .inr (.inl k)) (fun k => .inr (.inr k))
    obtain ⟨w, r, q⟩ := hl i y av e1 e2 hvis
    have hk : cenv.kindOf y = some .free := by
      show cenv.scope.names.lookup y = some .free
      rw [hsc]
      exact hfr'
    refine ⟨w, r, .inr ⟨.inr hk, ?_⟩⟩
    obtain ⟨c, h1, h2⟩ := look hfr'
    rcases q with ⟨k, _⟩ | ⟨_, c', e', z⟩
    · have k : X.env.scope.names.lookup y = some .local := k
      rcases ok.free _ (PySem.mem_of_lookup hfr') rfl with k' | k' <;> rw [show X.env.scope.names.lookup y = _ from k'] at k <;> cases k
    · rw [h2] at e'; cases e'
      exact ⟨c, h1, z.keeps kp⟩
  · obtain ⟨w, z⟩ := I.cell y c (mem e).1
    exact ⟨w, z.keeps kp⟩
  · show H cenv.locals = none
    rw [hL]; exact I.hok.fresh hC
  · exact I.freeC y c (mem e).1
  · exact absurd (show p ∈ ([] : List (Addr × Obj)) ++ [] from hp) (by simp)
end
end GX
namespace GX
open PySem PySem.Spec PyProof.Rows L2 GenW

/-- the consumer's own object (the list that it fills, the sum so far): where it stands, what it holds when ys are out -/
structure Hold where
  S : Addr
  K : List V → Obj → Prop
  nocell : ∀ ys o, K ys o → ∀ v, o.data ≠ .cell v
def PS : Option Hold → List V → List (Addr × Obj) → Prop
  | none, _, ps => ps = []
  | some h, ys, ps => ∃ o, h.K ys o ∧ ps = [(h.S, o)]
/-- between two turns the consumer does no more than this -/
def Woke : Option Hold → List V → V → Shared → Shared → Prop
  | none, _, _, s, s' => s'.os = s.os ∧ AllBare s'.gens ∧ ∀ b o, s.heap.get? b = some o → s'.heap.get? b = some o
  | some h, ys, y, s, s' => s'.os = s.os ∧ AllBare s'.gens ∧ (∀ b o, b ≠ h.S → s.heap.get? b = some o → s'.heap.get? b = some o) ∧ ∃ o, s'.heap.get? h.S = some o ∧ h.K (ys ++ [y]) o
def ApartO (G : Cx) : Option Hold → Prop
  | none => True
  | some h => Apart G h.S
def Not_ (S : Option Hold) (b : Addr) : Prop := ∀ h, S = some h → b ≠ h.S
/-- the generator's own state: ys are out -/
def GJ (G : Cx) (S : Option Hold) (pa : List (Addr × Obj)) (ys : List V) (σ : L2.St) (H : Hp) (s : Shared) : Prop := ∃ ps, PS S ys ps ∧ Inv G (ps ++ pa) σ H s
theorem GJ.woken {G : Cx} {S : Option Hold} {pa : List (Addr × Obj)} {ys : List V} {x : V} {σ : L2.St} {H : Hp} {s s' : Shared} (hpn : ∀ p ∈ G.pn, Not_ S p.1) (hpa : ∀ p ∈ pa, Not_ S p.1) (hA : ApartO G S) (h : GJ G S pa ys σ H s) (z : Woke S ys x s s') :
    GJ G S pa (ys ++ [x]) σ H s' := by
  obtain ⟨ps, h1, I⟩ := h
  cases S with
  | none =>
    have e : ps = [] := h1
    subst e
    obtain ⟨z1, z2, z3⟩ := z
    exact ⟨[], rfl, I.call' (ch := []) z1 (Un.kept z3) (I.hok.kept z3) z2 fun b hb => by simp at hb⟩
  | some h =>
    obtain ⟨o, r, rfl⟩ := h1
    obtain ⟨eS, hS0, hSL, hSf, _⟩ := I.pin (h.S, o) (List.mem_append_right _ (List.mem_append_left _ (List.mem_singleton.mpr rfl)))
    have I0 : Inv G pa σ H s := I.pins_of fun p hp => I.pin p (List.mem_append_right _ (List.mem_append_right _ hp))
    have nt : ∀ b u, H b = some u → b ≠ h.S := fun b u q hb => by rw [hb] at q; rw [show H h.S = none from hS0] at q; cases q
    obtain ⟨z1, z2, z3, o', eS', r'⟩ := z
    obtain ⟨hh, g, d, t, os⟩ := s'
    have ho : os = s.os := z1
    subst ho
    have nc : ∀ b, b ∉ [h.S] → b ≠ h.S := fun b hb e => hb (by rw [e]; exact List.mem_singleton.mpr rfl)
    have J : Inv G pa σ H { s with heap := hh, gens := g, drawn := d, toks := t } := by
      refine I0.step (g' := g) (t' := t) (d' := d) (ch := [h.S]) (fun b hb => ?_)
        (fun b ob _ _ hc q _ => z3 b ob (nc b hc) q) (fun b ob _ _ hc q _ => ⟨ob.slots, z3 b ob (nc b hc) q⟩) (fun _ _ _ _ n => n) (fun b ob hc q => ⟨ob, z3 b ob (nc b hc) q⟩)
        (fun _ _ q => q) (fun _ _ _ q => q) (fun b ps q => ⟨#[], by rw [q]; simp⟩) (fun m hm => ?_) (fun b u q => ?_) z2
      · rw [List.mem_singleton.mp hb]
        refine ⟨.inr hA.1, hA.2.1, hA.2.2, fun p hp => ?_⟩
        rcases List.mem_append.mp hp with hp | hp
        · exact hpn p hp h rfl
        · exact hpa p hp h rfl
      · obtain ⟨ob, es, ep, ho, r⟩ := hm
        exact ⟨ob, es, ep, z3 _ ob (Ne.symm hSL) ho, r⟩
      · refine (I0.hok b u q).stay (fun c v hc y => z3 c v ?_ y) (fun _ y => y) fun _ _ y => y
        rcases hc with y | y
        · rw [y]; exact nt b u q
        · exact nt c _ y
    refine ⟨_, ⟨o', r', rfl⟩, J.pins_of fun p hp => ?_⟩
    rcases List.mem_append.mp hp with hp | hp
    · rw [List.mem_singleton.mp hp]
      exact ⟨eS', hS0, hSL, hSf, h.nocell _ _ r'⟩
    · exact J.pin p (List.mem_append_right _ hp)

/-- the consumer's object is as it was -/
def SameS : Option Hold → Shared → Shared → Prop
  | none, _, _ => True
  | some h, s₀, s => s.heap.get? h.S = s₀.heap.get? h.S
theorem sameS_of {G : Cx} {S : Option Hold} {pa : List (Addr × Obj)} {ys : List V} {ps q1 q2 : List (Addr × Obj)} {σ σ' : L2.St} {H H' : Hp} {s₀ s s' : Shared} (hps : PS S ys ps) (h0 : SameS S s₀ s) (I : Inv G (ps ++ pa ++ q1) σ H s) (I' : Inv G (ps ++ pa ++ q2) σ' H' s') : SameS S s₀ s' := by
  cases S with
  | none => exact True.intro
  | some h =>
    obtain ⟨o, _, rfl⟩ := hps
    have e1 := (I.pin (h.S, o) (List.mem_append_right _ (List.mem_append_left _ (List.mem_append_left _ (List.mem_singleton.mpr rfl))))).1
    have e2 := (I'.pin (h.S, o) (List.mem_append_right _ (List.mem_append_left _ (List.mem_append_left _ (List.mem_singleton.mpr rfl))))).1
    exact e2.trans (e1.symm.trans h0)
theorem SameS.refl (S : Option Hold) (s : Shared) : SameS S s s := by
  cases S with
  | none => exact True.intro
  | some h => exact rfl
/-- what is wanted: at the end, of an item (nx: what follows if the consumer goes on) -/
structure Wish where
  St : List V → Hp → Prop
  It : List V → V → Hp → Prop → Prop
  mono : ∀ ys y H p q, (p → q) → It ys y H p → It ys y H q

def YJ (G : Cx) (S : Option Hold) (pa : List (Addr × Obj)) (Z : Wish) (N0 : Nat) : Protocol := fun n s₀ v s kap =>
  ∃ ys y σ H, n + 1 + ys.length = N0 ∧ RelV y v ∧ SameS S s₀ s ∧ GJ G S pa ys σ H s ∧ Z.It ys y H (∀ s', Woke S ys y s s' → kap (.send .none) s')
def RJ (G : Cx) (S : Option Hold) (pa : List (Addr × Obj)) (Z : Wish) (N0 : Nat) : GenEnd := fun n s₀ r s =>
  ((r = .ok (.ret .none) ∨ r = .ok .next) ∧ ∃ ys σ H, n + ys.length = N0 ∧ SameS S s₀ s ∧ GJ G S pa ys σ H s ∧ Z.St ys H) ∨ ∃ e, r = .error e ∧ False

/-- the generator expression's promise: W by the turn, the items that are out, a measure -/
def Turns (J : It) (Z : Wish) (N0 : Nat) (g : TG) (tt : TT) (te : TE) (vs : List Nat) (σ : L2.St) (W : Nat → List V → Nat → Hp → Prop) : Prop :=
  ∀ i ys m H, W i ys m H → (J.stop i H ∧ Z.St ys H) ∨ (J.go i H ∧ ∃ Nx : List V → Hp → Prop, (∀ ys' H', Nx ys' H' → ∃ m', m' < m ∧ W (i + 1) ys' m' H') ∧
    ∀ x H', J.yld i H x H' → g x (wipe σ vs) H' fun σ2 H2 => wipe σ2 vs = wipe σ vs ∧ tt σ2 H2 fun b H3 =>
      if b = true then te σ2 H3 fun y H4 => ys.length < N0 ∧ Z.It ys y H4 (Nx (ys ++ [y]) H4) else Nx ys H3)

theorem seg_loop {X : Cx} {s0 : Shared} {H0 : Hp} {cenv : Env} {fp : List Addr} {scope : Scope} {own : List (Str × Nat)} {elt tg iter : Expr} {ifs : List Expr} {pos : Pos} {it : Addr} {tn : Nat → Heap → Prop} {J : It} {g : TG} {tt : TT} {te : TE} {B : Around} {S : Option Hold} {pa : List (Addr × Obj)} {Z : Wish} {N0 : Nat}
    {σ : L2.St} {W : Nat → List V → Nat → Hp → Prop} (hcalm : X.calm = true) (hco : cenv.scope.isCoroutine = false) (T : Turn X.prog X.w X.K tg J fp it tn) (A : Around) (hA : A = B.over (.compLoop (.GeneratorExp elt [⟨tg, iter, ifs, 0⟩] scope pos) 0 (.ref it) .none cenv) [])
    (pg : PG (gcx X s0 H0 cenv A fp) tg g) (pt : PTs (gcx X s0 H0 cenv A fp) ifs tt) (pe : PE (gcx X s0 H0 cenv A fp) elt te) (hap : ApartO (gcx X s0 H0 cenv A fp) S) (hpa : ∀ p ∈ pa, Not_ S p.1) (hpf : ∀ p ∈ pa, p.1 ∉ fp) (hSf : ∀ b ∈ fp, Not_ S b)
    (turn : Turns J Z N0 g tt te (own.map (·.2)) σ W) :
    ∀ (m i : Nat) (ys : List V) (n : Nat) (s₀ s : Shared) (H : Hp), W i ys m H → n + ys.length = N0 → SameS S s₀ s → GJ (gcx X s0 H0 cenv A fp) S pa ys (wipe σ (own.map (·.2))) H s → tn i s.heap → (∀ b ∈ fp, H b = none) →
      Seg (model X.prog X.w) B (RJ (gcx X s0 H0 cenv A fp) S pa Z N0) (YJ (gcx X s0 H0 cenv A fp) S pa Z N0) n s₀ (.compLoop (.GeneratorExp elt [⟨tg, iter, ifs, 0⟩] scope pos) 0 (.ref it) .none cenv)
        ((model X.prog X.w).den (.compLoop (.GeneratorExp elt [⟨tg, iter, ifs, 0⟩] scope pos) 0 (.ref it) .none cenv)) [] s := by
  intro m
  induction m using Nat.strongRecOn with
  | ind m ih =>
    intro i ys n s₀ s H w hn hs0 hG st hfp
    obtain ⟨ps, hps, I⟩ := hG
    -- where the iterator's objects stand
    have hf : ∀ {σ' : L2.St} {H' : Hp} {s' : Shared}, Inv (gcx X s0 H0 cenv A fp) (ps ++ pa) σ' H' s' → (∀ b ∈ fp, H' b = none) → ∀ b ∈ fp, FpOk (gcx X s0 H0 cenv A fp) (ps ++ pa) H' b := fun {σ' H' s'} I' hz b hb =>
      ⟨hz b hb, (I'.ok.exf b hb).1, I'.ok.exfs b hb, .inl hb, fun x c e => (I'.ok.exf b hb).2 x c e, fun p hp => by
        have hp : p ∈ ps ++ pa := hp
        rcases List.mem_append.mp hp with z | z
        · cases S with
          | none =>
            have e : ps = [] := hps
            rw [e] at z
            cases z
          | some h =>
            obtain ⟨o, _, e⟩ := hps
            rw [e] at z
            rw [List.mem_singleton.mp z]
            exact fun q => hSf b hb h rfl q.symm
        · exact fun q => hpf p z (by rw [q]; exact hb)⟩
    show Seg _ B _ _ n s₀ _ ((compTurn (.GeneratorExp elt [⟨tg, iter, ifs, 0⟩] scope pos) 0 (.ref it) .none cenv).onRaise (leaving cenv)) [] s
    rw [compTurn_gen, Sem.onRaise_eq_wrap]
    refine seg_bind_wrap (wpAny_standAt ?_)
    rcases turn i ys m H w with ⟨stop, qq⟩ | ⟨go, Nx, hNx, step⟩
    · have td := T.done (gcx X s0 H0 cenv A fp) rfl rfl rfl hcalm i (ps ++ pa) s _ H (fun _ _ => False) I (hf I hfp) st stop
      refine seg_bind_wrap ?_
      rw [← hA]
      refine thnF td fun r s6 ⟨hr, I6⟩ => ?_
      subst hr
      exact seg_end (.ok .next) (.inl ⟨.inr rfl, ys, _, H, hn, sameS_of (q1 := []) (q2 := []) hps hs0 (by rw [List.append_nil]; exact I) (by rw [List.append_nil]; exact I6), ⟨ps, hps, I6⟩, qq⟩)
    · have ti := T.item (gcx X s0 H0 cenv A fp) rfl rfl rfl hcalm i (ps ++ pa) s _ H (fun _ _ => False) I (hf I hfp) st go
      refine seg_bind_wrap ?_
      rw [← hA]
      refine thnF ti fun r s6 ⟨u, hr, h6⟩ => ?_
      subst hr
      refine seg_bind_wrap ?_
      rw [← hA]
      refine thnF h6 fun _ s7 ⟨x, H7, I7, r7, y7, st7, n7⟩ => ?_
      have I7' := I7.pinned (hf I7 n7) (T.obj _ _ st7)
      refine seg_bind_wrap ?_
      rw [← hA]
      refine thnF (pg.run _ s7 _ H7 x u _ I7' r7 (step x H7 y7)) fun _ s8 ⟨σ8, H8, I8, hw8, q8⟩ => ?_
      refine seg_bind_wrap ?_
      rw [← hA]
      refine thnF (pt.run _ s8 σ8 H8 _ I8 q8) fun b s9 ⟨H9, I9, q9⟩ => ?_
      have pin' : ∀ {s' : Shared} {H' : Hp}, Inv (gcx X s0 H0 cenv A fp) (ps ++ pa ++ pinsAt fp s7.heap) σ8 H' s' → (tn (i + 1) s'.heap ∧ ∀ b ∈ fp, H' b = none) := fun {s' H'} I' => by
        have pin' : ∀ b ∈ fp, ∀ o, s7.heap.get? b = some o → s'.heap.get? b = some o ∧ H' b = none := fun b hb o e =>
          let z := I'.pin (b, o) (List.mem_append_right _ (List.mem_append_right _ (mem_pinsAt hb e)))
          ⟨z.1, z.2.1⟩
        refine ⟨T.keep _ _ _ st7 fun b hb o e => (pin' b hb o e).1, fun b hb => ?_⟩
        obtain ⟨o, e, _⟩ := T.obj _ _ st7 b hb
        exact (pin' b hb o e).2
      have weak : ∀ {s' : Shared} {H' : Hp}, Inv (gcx X s0 H0 cenv A fp) (ps ++ pa ++ pinsAt fp s7.heap) σ8 H' s' → Inv (gcx X s0 H0 cenv A fp) (ps ++ pa) (wipe σ (own.map (·.2))) H' s' := fun {s' H'} I' => by
        have hl : (wipe σ (own.map (·.2))).length = σ8.length := by rw [← hw8, wipe_length]
        refine (I'.unpinned (pins := ps ++ pa)).weak hl fun j v e => ?_
        rw [← hw8] at e
        exact (wipe_some e).1
      cases b with
      | false =>
        simp only [Bool.false_eq_true, if_false] at q9 ⊢
        obtain ⟨m', hm, w'⟩ := hNx ys H9 q9
        obtain ⟨t1, t2⟩ := pin' I9
        exact seg_again rfl (ih m' hm (i + 1) ys n s₀ s9 H9 w' hn (sameS_of (q1 := []) hps hs0 (by rw [List.append_nil]; exact I) I9) ⟨ps, hps, weak I9⟩ t1 t2)
      | true =>
        simp only [if_true] at q9 ⊢
        have hy : ∀ v, yieldOut cenv v = yieldValue v := fun v => by simp only [yieldOut, hco, Bool.false_eq_true, if_false]
        simp only [hy]
        rw [Sem.bind_eq_wrap', Sem.bind_eq_wrap', Sem.wrap_wrap, Sem.wrap_wrap]
        refine seg_wrap ?_
        rw [← hA]
        refine thnF (pe.run _ s9 σ8 H9 _ I9 q9) fun z s10 ⟨yv, H10, I10, r10, hlt, nx⟩ => ?_
        obtain ⟨t1, t2⟩ := pin' I10
        have hG10 : GJ (gcx X s0 H0 cenv A fp) S pa ys (wipe σ (own.map (·.2))) H10 s10 := ⟨ps, hps, weak I10⟩
        obtain ⟨n', rfl⟩ : ∃ n', n = n' + 1 := ⟨n - 1, by omega⟩
        refine seg_at (seg_yield rfl rfl rfl ⟨ys, yv, _, H10, by omega, r10, sameS_of (q1 := []) hps hs0 (by rw [List.append_nil]; exact I) I10, hG10, Z.mono _ _ _ _ _ (fun nx s' hw => ?_) nx⟩)
        obtain ⟨m', hm, w'⟩ := hNx (ys ++ [yv]) H10 nx
        refine seg_again rfl (ih m' hm (i + 1) (ys ++ [yv]) n' s' s' H10 w' (by rw [List.length_append]; simp only [List.length_cons, List.length_nil]; omega) (SameS.refl _ _) (hG10.woken (fun p hp => absurd (show p ∈ ([] : List (Addr × Obj)) from hp) (by simp)) hpa hap hw) ?_ t2)
        refine T.keep _ _ _ t1 fun b hb o e => ?_
        cases S with
        | none => exact hw.2.2 b o e
        | some h => exact hw.2.2.1 b o (hSf b hb h rfl) e
end GX
namespace GX
open PySem PySem.Spec PyProof.Rows L2 GenW GxR

theorem seg_start {X : Cx} {s0 : Shared} {H0 : Hp} {cenv : Env} {fp : List Addr} {scope : Scope} {own : List (Str × Nat)} {elt tg iter : Expr} {ifs : List Expr} {pos : Pos} {it : Addr} {tn : Nat → Heap → Prop} {J : It} {g : TG} {tt : TT} {te : TE} {B : Around} {S : Option Hold} {pa : List (Addr × Obj)} {Z : Wish} {N0 : Nat}
    {σ : L2.St} {W : Nat → List V → Nat → Hp → Prop} (hcalm : X.calm = true) (hco : cenv.scope.isCoroutine = false) (T : Turn X.prog X.w X.K tg J fp it tn) (A : Around) (hA : A = B.over (.compLoop (.GeneratorExp elt [⟨tg, iter, ifs, 0⟩] scope pos) 0 (.ref it) .none cenv) [])
    (pg : PG (gcx X s0 H0 cenv A fp) tg g) (pt : PTs (gcx X s0 H0 cenv A fp) ifs tt) (pe : PE (gcx X s0 H0 cenv A fp) elt te) (hap : ApartO (gcx X s0 H0 cenv A fp) S) (hpa : ∀ p ∈ pa, Not_ S p.1) (hpf : ∀ p ∈ pa, p.1 ∉ fp) (hSf : ∀ b ∈ fp, Not_ S b)
    (turn : Turns J Z N0 g tt te (own.map (·.2)) σ W) (m : Nat) (s₀ s : Shared) (H : Hp) (w : W 0 [] m H) (hs0 : SameS S s₀ s) (hG : GJ (gcx X s0 H0 cenv A fp) S pa [] (wipe σ (own.map (·.2))) H s) (st : tn 0 s.heap) (hfp : ∀ b ∈ fp, H b = none) :
      Seg (model X.prog X.w) B (RJ (gcx X s0 H0 cenv A fp) S pa Z N0) (YJ (gcx X s0 H0 cenv A fp) S pa Z N0) N0 s₀ (.compStart (.GeneratorExp elt [⟨tg, iter, ifs, 0⟩] scope pos) 0 (.ref it) .none cenv)
        ((model X.prog X.w).den (.compStart (.GeneratorExp elt [⟨tg, iter, ifs, 0⟩] scope pos) 0 (.ref it) .none cenv)) [] s := by
  have loop := seg_loop hcalm hco T A hA pg pt pe hap hpa hpf hSf turn m 0 [] N0 s₀ s H w (Nat.add_zero _) hs0 hG st hfp
  show Seg _ B _ _ N0 s₀ _ ((compStart (.GeneratorExp elt [⟨tg, iter, ifs, 0⟩] scope pos) 0 (.ref it) .none cenv).onRaise (leaving cenv)) [] s
  unfold compStart
  rw [Sem.onRaise_eq_wrap]
  show Seg _ B _ _ N0 s₀ _ ((ask >>= _).wrap _ _ _ _) [] s
  refine seg_bind_wrap (wpAny_askSetting ?_)
  split
  · exact seg_again rfl loop
  · first
      | exact seg_bind_wrap (wpAny_rule (seg_bind_wrap (wpAny_standAt (seg_bind_wrap (T.self _ 0 s _ _ st (seg_again rfl loop))))))
      | (refine seg_bind_wrap (wpAny_rule ?_); show Seg _ B _ _ N0 s₀ _ ((standAt iter.pos >>= _).wrap _ _ _ _) [] s; exact seg_bind_wrap (wpAny_standAt (seg_bind_wrap (T.self _ 0 s _ _ st (seg_again rfl loop)))))

/-- a generator has been made and has not begun -/
structure Made (X : Cx) (pins : List (Addr × Obj)) (σ : L2.St) (elt tg iter : Expr) (ifs : List Expr) (scope : Scope) (pos : Pos) (P : Addr) (R : It → Hp → Prop) (a : Addr) (s4 : Shared) (gid : Nat) (cenv : Env) (fp : List Addr) (it : Addr) (tn : Nat → Heap → Prop) (J : It) (sc : Shared) (Hc : Hp) (go : Obj) (m : Str → Option Value) : Prop where
  inv : Inv X pins σ Hc sc
  keep : ∀ b o, sc.heap.get? b = some o → s4.heap.get? b = some o
  young : sc.heap.objs.size ≤ cenv.locals
  above : cenv.locals < a
  lt : a < s4.heap.objs.size
  obj : s4.heap.get? a = some go
  isgen : ∀ h : Heap, h.get? a = some go → h.IsGen a gid
  nocell : ∀ v, go.data ≠ .cell v
  fresh : s4.gens[gid]? = some (.fresh (.compStart (.GeneratorExp elt [⟨tg, iter, ifs, 0⟩] scope pos) 0 (.ref it) .none cenv))
  os : s4.os = sc.os
  bare : AllBare s4.gens
  lim : s4.heap.NoLimit
  ns : s4.heap.Ns cenv.locals m
  gen : ∃ cl C code bi, cenv = genEnv scope cl C code bi X.env
  sc_ : cenv.scope = scope
  cl : cenv.cells = cloFrom X.env.cells scope.names []
  gl : cenv.globals = X.env.globals
  bi : cenv.builtins = builtinsNs
  fr : cenv.frame = some cenv.locals
  turn : Turn X.prog X.w X.K tg J fp it tn
  st : tn 0 sc.heap
  fps : ∀ b ∈ fp, FpOk X pins Hc b ∧ b < sc.heap.objs.size
  res : ∃ H1, Tabbed P H1 Hc ∧ R J H1

section
variable {X : Cx} {pins : List (Addr × Obj)} {σ : L2.St} {H : Hp} {s : Shared}
theorem gen_make {c P : Addr} {elt tg iter : Expr} {ifs : List Expr} {scope : Scope} {own : List (Str × Nat)} {pos : Pos} {wi : TI} {k : Nat} {R : It → Hp → Prop} {Q' : Value → Shared → Prop}
    (hr : Room k X.A) (TB : TabB X.base X.mg c P) (hcode : X.env.code = .ref c) (ok : GenOk X.N X.env.scope scope own) (hi : PI X tg iter wi)
    (hs : ∀ v, genFold iter X.env v = pure v) (I : Inv X pins σ H s) (h : wi σ H fun J H1 => TabG H1 P ∧ R J H1)
    (hQ : ∀ a s4 gid cenv fp it tn J sc Hc go m, Made X pins σ elt tg iter ifs scope pos P R a s4 gid cenv fp it tn J sc Hc go m → Q' (.ref a) s4) :
    wpAny (model X.prog X.w) X.A (eval (.GeneratorExp elt [⟨tg, iter, ifs, 0⟩] scope pos) X.env) Q' X.xe s := by
  have hfree : ∀ y ∈ scope.names, y.2 = .free → ∃ c, X.env.cells.lookup y.1 = some c := fun y hy e => by
    rcases ok.free y hy e with k | k
    · exact I.ok.has _ (.inl k)
    · exact I.ok.has _ (.inr k)
  refine wpAny_GeneratorExp_make ok.co (closure_ok hfree) ok.cell ok.dot ok.kind (by have := hr.dp; omega) (thn (hi.run pins s σ H _ I h) fun xv s1 hx => thn hx fun itv s2 h2 => ?_) hs
  obtain ⟨it, fp, tn, J, H1, rfl, I1, T, st2, f2, ⟨ps, hP, ht⟩, q1⟩ := h2
  refine ⟨I1.nolimit, ?_⟩
  have hPs : s2.heap.get? P = some { cls := .none, data := .fields ps } := I1.hok P _ hP
  have cd : PySem.W.CodeHd s2.heap c P := TB.code.keeps fun b u e => (I1.bs b u e).1
  have szf : ∀ b ∈ fp, b < s2.heap.objs.size := fun b hb => by
    obtain ⟨o, e, _⟩ := T.obj _ _ st2 b hb
    exact Heap.lt_size e
  have fpP : ∀ b ∈ fp, b ≠ P := fun b hb e => by
    have := (f2 b hb).1
    rw [e, hP] at this
    cases this
  have cont : ∀ (code : Value) (h3 : Heap) (tk : Nat) (ps' : Array Value), Heap.ExtBut P s2.heap h3 → s2.heap.objs.size ≤ h3.objs.size → h3.get? P = some { cls := .none, data := .fields ps' } → (∃ more, ps' = ps ++ more) → TriplesOk ps'.toList →
      wpAny (model X.prog X.w) X.A (builtinsFor X.env.globals X.env.builtins) (fun bi s₄ =>
        ∀ h', h'.Ns s₄.heap.objs.size (fun y => if y = ".0" then some (.ref it) else none) → Heap.SameBut s₄.heap.objs.size (s₄.heap.push { cls := .type "frame", data := .dict #[] }) h' →
          Q' (.ref h'.objs.size) { s₄ with
            gens := s₄.gens.push (.fresh (.compStart (.GeneratorExp elt [⟨tg, iter, ifs, 0⟩] scope pos) 0 (.ref it) .none (genEnv scope (cloFrom X.env.cells scope.names []) s₄.heap.objs.size code bi X.env))),
            toks := s₄.toks + 1 + 1 + 1,
            heap := h'.push { cls := .type "generator", data := .fields #[.int s₄.gens.size 0, .str "<genexpr>" (s₄.toks + 1), .str (X.env.qual ++ "<genexpr>") (s₄.toks + 1 + 1)] } }) X.xe { s2 with heap := h3, toks := tk } := by
    intro code h3 tk ps' hx hsz hP3 hmore ht3
    obtain ⟨bm, ob, e1, e2, e3, e4, e5, e6, e7, e8⟩ := TB.bm
    have keep3 : ∀ b u, b ≠ P → s2.heap.get? b = some u → h3.get? b = some u := fun b u hb e => hx b u hb e
    refine wpAny_builtinsFor (m := X.mg) (by rw [I1.ok.glob]; exact (I1.mod.glob.keeps I1.bk).extBut hx TB.gP) e1 e2 (keep3 _ _ e4 (I1.bk _ _ e5)) e6 e7 e8 ?_
    intro h' hn' hs'
    obtain ⟨more, em⟩ := hmore
    have J3 := inv_tab (more := more) (h' := h3) (g' := s2.gens) (d' := s2.drawn) (t' := tk) I1 hP (fun b u hb e => keep3 b u hb e) (by rw [← em]; exact hP3) I1.bare
    have hsz4 : h'.objs.size = h3.objs.size + 1 := by rw [hs'.1, Heap.size_push]
    have keep' : ∀ b o, h3.get? b = some o → h'.get? b = some o := fun b o e => hs'.extBut b o (Nat.ne_of_lt (Heap.lt_size e)) (Heap.get?_push_of_some _ e)
    have lim3 : h3.NoLimit := J3.nolimit
    refine hQ h'.objs.size _ s2.gens.size (genEnv scope (cloFrom X.env.cells scope.names []) h3.objs.size code builtinsNs X.env) fp it tn J { s2 with heap := h3, toks := tk } (upd H1 P (.tbl (ps ++ more))) { cls := .type "generator", data := .fields #[.int s2.gens.size 0, .str "<genexpr>" (tk + 1), .str (X.env.qual ++ "<genexpr>") (tk + 1 + 1)] } (fun y => if y = ".0" then some (.ref it) else none) ?_
    exact {
      inv := J3
      keep := fun b o e => Heap.get?_push_of_some _ (keep' b o e)
      young := Nat.le_refl _
      above := by show h3.objs.size < h'.objs.size; omega
      lt := by rw [Heap.size_push]; exact Nat.lt_succ_self _
      obj := Heap.get?_push_size _ rfl
      isgen := fun h e => ⟨_, _, _, e, rfl, rfl, rfl⟩
      nocell := fun v q => by cases q
      fresh := Array.getElem?_push_size ..
      os := rfl
      bare := I1.bare.push rfl
      lim := lim3.keeps fun b o e => Heap.get?_push_of_some _ (keep' b o e)
      ns := hn'.push _
      gen := ⟨_, _, _, _, rfl⟩
      sc_ := rfl
      cl := rfl
      gl := rfl
      bi := rfl
      fr := rfl
      turn := T
      st := T.keep _ _ _ st2 fun b hb o e => keep3 b o (fpP b hb) e
      fps := fun b hb => ⟨⟨by rw [upd_ne (fpP b hb)]; exact (f2 b hb).1, (f2 b hb).2⟩, Nat.lt_of_lt_of_le (szf b hb) hsz⟩
      res := ⟨H1, ⟨⟨ps ++ more, upd_same, by rw [← em]; exact ht3⟩, fun b hb => upd_ne hb⟩, q1⟩ }
  cases hf : codeAmong pos ps.toList with
  | none =>
    refine wpAny_genexprCodeX hcode (cd.code hPs ht) (cd.tab hPs) hf fun c' h' tk hx hge hlt hco' _ htab' _ => ?_
    obtain ⟨o1, vs, f1, tf, fl, tg', inF, tx, tt, op, _, _, _, _, _, _, _, _, _, htr, _⟩ := hco'
    exact cont _ h' tk _ hx (Nat.le_trans hge (Nat.le_of_lt hlt)) htab'.2 ⟨_, rfl⟩ htr
  | some cv =>
    refine wpAny_genexprCode_hit hcode (cd.code hPs ht) hf ?_
    exact cont cv s2.heap s2.toks ps (Heap.ExtBut.refl _ _) (Nat.le_refl _) hPs ⟨#[], by simp⟩ ht
end
end GX
namespace GX
open PySem PySem.Spec PyProof.Rows L2 GenW GxR

/-- asleep, n items at most to come -/
def Asleep (X : Cx) (G : Cx) (S : Option Hold) (pa : List (Addr × Obj)) (Z : Wish) (N0 : Nat) (B : Around) (a : Addr) (gid n : Nat) (s : Shared) : Prop :=
  s.heap.IsGen a gid ∧ s.heap.NoLimit ∧ ∃ gs, s.gens[gid]? = some gs ∧ gs.Goes (model X.prog X.w) B (RJ G S pa Z N0) (YJ G S pa Z N0) n (.send .none) (s.setGen gid .running)
theorem sameS_set {S : Option Hold} {s s1 : Shared} {g : Nat} {x : GenState} (h : SameS S (s.setGen g x) s1) : SameS S s s1 := by
  cases S with
  | none => exact True.intro
  | some h' => exact h
theorem next_gx {X G : Cx} {S : Option Hold} {pa : List (Addr × Obj)} {Z : Wish} {N0 : Nat} {A' : Around} {a : Addr} {gid n : Nat} {s : Shared} {Q : Option Value → Shared → Prop} {E : Value → Shared → Prop} (hh : A'.handled = none) (hroom : A'.depth < recursionLimit) (h : Asleep X G S pa Z N0 A'.in1 a gid n s)
    (hY : ∀ v s1 gs' ys y σ H, gs'.bare = true → n - 1 + 1 + ys.length = N0 → RelV y v → SameS S s s1 → GJ G S pa ys σ H s1 →
      Z.It ys y H (∀ s', Woke S ys y s1 s' → ∃ m, n = m + 1 ∧ gs'.Goes (model X.prog X.w) A'.in1 (RJ G S pa Z N0) (YJ G S pa Z N0) m (.send .none) s') → Q (some v) (s1.setGen gid gs'))
    (hP : ∀ s1 ys σ H, n + ys.length = N0 → SameS S s s1 → GJ G S pa ys σ H s1 → Z.St ys H → ∀ h', (∀ b o, s1.heap.get? b = some o → h'.get? b = some o) → Q none { s1.setGen gid .finished with heap := h' }) :
    wpAny (model X.prog X.w) A' (pyNext (.ref a)) Q E s := by
  obtain ⟨h1, h2, gs, h3, h4⟩ := h
  refine next_genG (F := fun n s₀ s => ∃ (ys : List V) (σ : L2.St) (H : Hp), n + ys.length = N0 ∧ SameS S s₀ s ∧ GJ G S pa ys σ H s ∧ Z.St ys H) (Er := fun _ _ => False) hh h2 hroom h1 h3 h4 (fun v s1 gs' hb hv => ?_) (fun s1 hp h' hk => ?_) fun e s1 he => he.elim
  · obtain ⟨ys, y, σ, H, q1, q2, q0, q3, q4⟩ := hv
    refine hY v s1 gs' ys y σ H hb q1 q2 (sameS_set q0) q3 (Z.mono _ _ _ _ _ (fun nx s' hw => ?_) q4)
    have := nx s' hw
    cases n with
    | zero => exact this.elim
    | succ m => exact ⟨m, rfl, this⟩
  · obtain ⟨ys, σ, H, q1, q0, q2, q3⟩ := hp
    exact hP s1 ys σ H q1 (sameS_set q0) q2 q3 h' hk
theorem setGen_get {s : Shared} {g : Nat} {x : GenState} (h : g < s.gens.size) : (s.setGen g x).gens[g]? = some x := by
  show (s.gens.setIfInBounds g x)[g]? = some x
  simp [h]
/-- the consumer's context again -/
theorem Made.back {X : Cx} {pins : List (Addr × Obj)} {σ : L2.St} {elt tg iter : Expr} {ifs : List Expr} {scope : Scope} {pos : Pos} {P : Addr} {R : It → Hp → Prop} {a : Addr} {s4 : Shared} {gid : Nat} {cenv : Env} {fp : List Addr} {it : Addr} {tn : Nat → Heap → Prop} {J : It} {sc : Shared} {Hc : Hp} {go : Obj} {m : Str → Option Value}
    (M : Made X pins σ elt tg iter ifs scope pos P R a s4 gid cenv fp it tn J sc Hc go m) {A : Around} {ps : List (Addr × Obj)} {σ' : L2.St} {H' : Hp} {s1 s2 : Shared} (I : Inv (gcx X sc Hc cenv A fp) ps σ' H' s1) (hos : s2.os = s1.os) (hb : AllBare s2.gens) (hk : ∀ b o, s1.heap.get? b = some o → s2.heap.get? b = some o) : Inv X pins σ H' s2 :=
  M.inv.call' (ch := fp) (hos.trans I.os) (I.base.trans (Un.kept hk)) (I.hok.kept hk) hb fun b hb => ⟨(M.fps b hb).1.2.2.2.1, (M.fps b hb).1.2.1, (M.fps b hb).1.2.2.2.2.1, (M.fps b hb).1.2.2.2.2.2⟩
theorem Made.begin {X : Cx} {pins : List (Addr × Obj)} {σ : L2.St} {elt tg iter : Expr} {ifs : List Expr} {scope : Scope} {own : List (Str × Nat)} {pos : Pos} {P : Addr} {R : It → Hp → Prop} {a : Addr} {s4 : Shared} {gid : Nat} {cenv : Env} {fp : List Addr} {it : Addr} {tn : Nat → Heap → Prop} {J : It} {sc : Shared} {Hc : Hp} {go : Obj} {m : Str → Option Value}
    (M : Made X pins σ elt tg iter ifs scope pos P R a s4 gid cenv fp it tn J sc Hc go m) (ok : GenOk X.N X.env.scope scope own) (hN : X.N.Nodup) {A : Around} (hA : A.frames = some (cenv :: X.stack)) (hc : X.calm = true → A.handled = none) :
    Inv (gcx X sc Hc cenv A fp) [(a, go)] (wipe σ (own.map (·.2))) Hc s4 := by
  have I := gen_start (A := A) M.inv ok hN hc M.fps M.sc_ rfl M.cl M.gl M.bi M.fr hA M.young M.keep M.ns M.os M.bare
  refine I.pins_of fun p hp => ?_
  rw [List.mem_singleton.mp hp]
  have hge : sc.heap.objs.size ≤ a := Nat.le_trans M.young (Nat.le_of_lt M.above)
  refine ⟨M.obj, M.inv.hok.fresh hge, Nat.ne_of_gt M.above, fun hb => ?_, M.nocell⟩
  rcases List.mem_cons.mp (M.inv.stkSub a hb) with z | z
  · exact Nat.ne_of_gt (Nat.lt_of_lt_of_le M.inv.lt hge) z
  · exact M.inv.nofs hge z
theorem Asleep.go {X G : Cx} {S : Option Hold} {pa : List (Addr × Obj)} {Z : Wish} {N0 : Nat} {B : Around} {a : Addr} {gid n : Nat} {s : Shared} {gs : GenState} (h1 : s.heap.IsGen a gid) (h2 : s.heap.NoLimit) (h3 : s.gens[gid]? = some gs)
    (h4 : gs.Goes (model X.prog X.w) B (RJ G S pa Z N0) (YJ G S pa Z N0) n (.send .none) (s.setGen gid .running)) : Asleep X G S pa Z N0 B a gid n s := ⟨h1, h2, gs, h3, h4⟩

theorem over_gen {A : Around} {elt : Expr} {gs : List Comprehension} {scope : Scope} {pos : Pos} {it acc : Value} {env : Env} : A.over (.compLoop (.GeneratorExp elt gs scope pos) 0 it acc env) [] = A.deeper env := by
  first
    | rfl
    | (obtain ⟨hd, d, fr, gs, u⟩ := A; simp [Around.over, Around.deeper, marksOver, frameCount, unitsOf, envsOf, guardsOf, pushEnvs, pushGuards, Code.envs, Code.env?, Code.isFrame, Code.guards, Code.isGuard, Code.weight, Code.frames, Code.isCreation, Code.isCaller, Code.cUnits])
/-- what the parts of a generator expression promise, in each of its frames -/
structure Parts (X : Cx) (k : Nat) (tg elt : Expr) (ifs : List Expr) (scope : Scope) (g : TG) (tt : TT) (te : TE) : Prop where
  tgt : ∀ (s : Shared) (H : Hp) (C : Addr) (cl : List (Str × Addr)) (code : Value) (bi : Addr) (A : Around) (fp : List Addr), Room k A → PG (gcx X s H (genEnv scope cl C code bi X.env) A fp) tg g
  tst : ∀ (s : Shared) (H : Hp) (C : Addr) (cl : List (Str × Addr)) (code : Value) (bi : Addr) (A : Around) (fp : List Addr), Room k A → PTs (gcx X s H (genEnv scope cl C code bi X.env) A fp) ifs tt
  elm : ∀ (s : Shared) (H : Hp) (C : Addr) (cl : List (Str × Addr)) (code : Value) (bi : Addr) (A : Around) (fp : List Addr), Room k A → PE (gcx X s H (genEnv scope cl C code bi X.env) A fp) elt te
/-- asleep, before its first turn; no object of the consumer's stands beside it -/
theorem Made.asleep {X : Cx} {pins : List (Addr × Obj)} {σ : L2.St} {elt tg iter : Expr} {ifs : List Expr} {scope : Scope} {own : List (Str × Nat)} {pos : Pos} {P : Addr} {R : It → Hp → Prop} {a : Addr} {s4 : Shared} {gid : Nat} {cenv : Env} {fp : List Addr} {it : Addr} {tn : Nat → Heap → Prop} {J : It} {sc : Shared} {Hc : Hp} {go : Obj} {m : Str → Option Value}
    (M : Made X pins σ elt tg iter ifs scope pos P R a s4 gid cenv fp it tn J sc Hc go m) (ok : GenOk X.N X.env.scope scope own) (hN : X.N.Nodup) (hcalm : X.calm = true) {k : Nat} {g : TG} {tt : TT} {te : TE} (hp : Parts X k tg elt ifs scope g tt te) {B : Around} (hB : Room (k + 1) B) (hfr : B.frames = some X.stack)
    {Z : Wish} {N0 : Nat} {W : Nat → List V → Nat → Hp → Prop} (turn : Turns J Z N0 g tt te (own.map (·.2)) σ W) {mm : Nat} (w : W 0 [] mm Hc) :
    Asleep X (gcx X sc Hc cenv (B.deeper cenv) fp) none [(a, go)] Z N0 B a gid N0 s4 := by
  have hA : B.deeper cenv = B.over (.compLoop (.GeneratorExp elt [⟨tg, iter, ifs, 0⟩] scope pos) 0 (.ref it) .none cenv) [] := over_gen.symm
  have hAf : (B.deeper cenv).frames = some (cenv :: X.stack) := Around.frames_deeper hfr
  have rA : Room k (B.deeper cenv) := hB.deeper cenv
  have I := M.begin (A := B.deeper cenv) ok hN hAf fun _ => rA.hd
  obtain ⟨cl, C, code, bi, hg⟩ := M.gen
  have fpa : ∀ p ∈ [(a, go)], p.1 ∉ fp := fun p hp hb => by
    rw [List.mem_singleton.mp hp] at hb
    have h1 := (M.fps a hb).2
    have h2 := M.young
    have h3 := M.above
    exact absurd (Nat.lt_trans (Nat.lt_of_lt_of_le h1 h2) h3) (Nat.lt_irrefl _)
  refine ⟨M.isgen _ M.obj, M.lim, _, M.fresh, rfl, ?_⟩
  have st4 : tn 0 s4.heap := M.turn.keep _ _ _ M.st fun b hb o e => M.keep b o e
  have hpg := hp.tgt sc Hc C cl code bi (B.deeper cenv) fp rA
  have hpt := hp.tst sc Hc C cl code bi (B.deeper cenv) fp rA
  have hpe := hp.elm sc Hc C cl code bi (B.deeper cenv) fp rA
  rw [← hg] at hpg hpt hpe
  refine seg_start (S := none) (own := own) (g := g) (tt := tt) (te := te) (σ := σ) (W := W) (J := J) hcalm (by rw [M.sc_]; exact ok.co) M.turn (B.deeper cenv) hA hpg hpt hpe True.intro (fun p hp a ha => by cases ha) fpa (fun b hb a ha => by cases ha) turn mm (s4.setGen gid .running) (s4.setGen gid .running) Hc w (SameS.refl _ _) ?_ st4 fun b hb => (M.fps b hb).1.1
  exact ⟨[], rfl, I.call' (s' := s4.setGen gid .running) (ch := []) rfl (Un.kept fun _ _ e => e) (I.hok.kept fun _ _ e => e) (allBare_setGen M.bare rfl) fun b hb => by simp at hb⟩

/-! ### any, all -/
/-- what any(..) wants: Qt behind the first True, Qf at the end -/
def zAny (Qt Qf : Hp → Prop) : Wish := ⟨fun _ H => Qf H, fun _ y H nx => ∃ b, y = .bl b ∧ (if b = true then Qt H else nx), fun _ _ _ _ _ h ⟨b, e, q⟩ => ⟨b, e, by cases b with | true => exact q | false => exact h q⟩⟩
def zAll (Qt Qf : Hp → Prop) : Wish := ⟨fun _ H => Qt H, fun _ y H nx => ∃ b, y = .bl b ∧ (if b = true then nx else Qf H), fun _ _ _ _ _ h ⟨b, e, q⟩ => ⟨b, e, by cases b with | true => exact h q | false => exact q⟩⟩
theorem any_loop {X G : Cx} {a : Addr} {gid : Nat} {go : Obj} {Qt Qf : Hp → Prop} {N0 : Nat} {A' : Around} {R : Result → Shared → Prop} (hh : A'.handled = none) (hroom : A'.depth < recursionLimit) (hgo : ∀ h : Heap, h.get? a = some go → h.IsGen a gid)
    (hR : ∀ b s1 ps σ H s2, Inv G (ps ++ [(a, go)]) σ H s1 → (if b = true then Qt H else Qf H) → s2.os = s1.os → AllBare s2.gens → (∀ b o, s1.heap.get? b = some o → s2.heap.get? b = some o) → R (.ok (.ret (.bool b))) s2) :
    ∀ (n : Nat) (s : Shared), Asleep X G none [(a, go)] (zAny Qt Qf) N0 A'.in1.in1 a gid n s → gid < s.gens.size → codeAny (model X.prog X.w) A' (.builtin "any.loop" ⟨[.ref a], []⟩) R s := by
  intro n
  induction n using Nat.strongRecOn with
  | ind n ih =>
    intro s h hlt
    refine codeAny_builtin F.entry_any_loop ?_
    rw [Around.under_plainId F.plain_any_loop _]
    show wpAny _ A'.in1 (pyNext (.ref a) >>= _) _ _ s
    refine wpAny_bind (wpAny_gsz (n := gid + 1) hlt (next_gx (A' := A'.in1) hh hroom h (fun v s1 gs' ys y σ H hb hn r hs0 hG hI => ?_) fun s1 ys σ H hn hs0 hG hq h' hk => ?_))
    · intro hsz
      have hsz1 : gid < s1.gens.size := by
        have q : (s1.setGen gid gs').gens.size = s1.gens.size := setGen_size _ _ _
        omega
      obtain ⟨b, rfl, q⟩ := hI
      obtain rfl : v = Value.bool b := r
      refine wpAny_bind (wpAny_holding (wpAny_truthy_bool ?_))
      refine wpAny_bind (wpAny_letGo ?_)
      obtain ⟨ps, hps, I⟩ := hG
      have hg1 : s1.heap.get? a = some go := (I.pin (a, go) (List.mem_append_right _ (List.mem_append_right _ (List.mem_singleton.mpr rfl)))).1
      cases b with
      | false =>
        simp only [Bool.false_eq_true, if_false] at q ⊢
        refine wpAny_pure ⟨plainId_quiet F.plain_any_loop _, ?_⟩
        obtain ⟨m, rfl, hgo2⟩ := q ((s1.setGen gid gs').setGen gid .running) ⟨rfl, allBare_setGen (allBare_setGen I.bare hb) rfl, fun _ _ e => e⟩
        exact ih m (by omega) (s1.setGen gid gs') ⟨hgo _ hg1, I.nolimit, gs', setGen_get hsz1, hgo2⟩ (by rw [setGen_size]; exact hsz1)
      | true =>
        simp only [if_true] at q ⊢
        refine wpAny_bind (wpAny_rule (wpAny_pure ?_))
        exact hR true s1 ps σ H _ I q rfl (allBare_setGen I.bare hb) fun _ _ e => e
    · intro _
      obtain ⟨ps, hps, I⟩ := hG
      refine wpAny_bind (wpAny_rule (wpAny_pure ?_))
      exact hR false s1 ps σ H _ I hq rfl (allBare_setGen I.bare rfl) hk
theorem all_loop {X G : Cx} {a : Addr} {gid : Nat} {go : Obj} {Qt Qf : Hp → Prop} {N0 : Nat} {A' : Around} {R : Result → Shared → Prop} (hh : A'.handled = none) (hroom : A'.depth < recursionLimit) (hgo : ∀ h : Heap, h.get? a = some go → h.IsGen a gid)
    (hR : ∀ b s1 ps σ H s2, Inv G (ps ++ [(a, go)]) σ H s1 → (if b = true then Qt H else Qf H) → s2.os = s1.os → AllBare s2.gens → (∀ b o, s1.heap.get? b = some o → s2.heap.get? b = some o) → R (.ok (.ret (.bool b))) s2) :
    ∀ (n : Nat) (s : Shared), Asleep X G none [(a, go)] (zAll Qt Qf) N0 A'.in1.in1 a gid n s → gid < s.gens.size → codeAny (model X.prog X.w) A' (.builtin "all.loop" ⟨[.ref a], []⟩) R s := by
  intro n
  induction n using Nat.strongRecOn with
  | ind n ih =>
    intro s h hlt
    refine codeAny_builtin F.entry_all_loop ?_
    rw [Around.under_plainId F.plain_all_loop _]
    show wpAny _ A'.in1 (pyNext (.ref a) >>= _) _ _ s
    refine wpAny_bind (wpAny_gsz (n := gid + 1) hlt (next_gx (A' := A'.in1) hh hroom h (fun v s1 gs' ys y σ H hb hn r hs0 hG hI => ?_) fun s1 ys σ H hn hs0 hG hq h' hk => ?_))
    · intro hsz
      have hsz1 : gid < s1.gens.size := by
        have q : (s1.setGen gid gs').gens.size = s1.gens.size := setGen_size _ _ _
        omega
      obtain ⟨b, rfl, q⟩ := hI
      obtain rfl : v = Value.bool b := r
      refine wpAny_bind (wpAny_holding (wpAny_truthy_bool ?_))
      refine wpAny_bind (wpAny_letGo ?_)
      obtain ⟨ps, hps, I⟩ := hG
      have hg1 : s1.heap.get? a = some go := (I.pin (a, go) (List.mem_append_right _ (List.mem_append_right _ (List.mem_singleton.mpr rfl)))).1
      cases b with
      | true =>
        simp only [if_true] at q ⊢
        refine wpAny_pure ⟨plainId_quiet F.plain_all_loop _, ?_⟩
        obtain ⟨m, rfl, hgo2⟩ := q ((s1.setGen gid gs').setGen gid .running) ⟨rfl, allBare_setGen (allBare_setGen I.bare hb) rfl, fun _ _ e => e⟩
        exact ih m (by omega) (s1.setGen gid gs') ⟨hgo _ hg1, I.nolimit, gs', setGen_get hsz1, hgo2⟩ (by rw [setGen_size]; exact hsz1)
      | false =>
        simp only [Bool.false_eq_true, if_false] at q ⊢
        refine wpAny_bind (wpAny_rule (wpAny_pure ?_))
        exact hR false s1 ps σ H _ I q rfl (allBare_setGen I.bare hb) fun _ _ e => e
    · intro _
      obtain ⟨ps, hps, I⟩ := hG
      refine wpAny_bind (wpAny_rule (wpAny_pure ?_))
      exact hR true s1 ps σ H _ I hq rfl (allBare_setGen I.bare rfl) hk
/-- any(elt for tg in iter if ..): P the def's table of code objects -/
def tAnyG (P : Addr) (wi : TI) (g : TG) (tt : TT) (te : TE) (vs : List Nat) : TE := fun σ H Q => wi σ H fun J H1 => TabG H1 P ∧ ∀ Hc, Tabbed P H1 Hc →
  ∃ N0 W, (∃ m, W 0 [] m Hc) ∧ Turns J (zAny (fun H' => Q (.bl true) H') (fun H' => Q (.bl false) H')) N0 g tt te vs σ W
def tAllG (P : Addr) (wi : TI) (g : TG) (tt : TT) (te : TE) (vs : List Nat) : TE := fun σ H Q => wi σ H fun J H1 => TabG H1 P ∧ ∀ Hc, Tabbed P H1 Hc →
  ∃ N0 W, (∃ m, W 0 [] m Hc) ∧ Turns J (zAll (fun H' => Q (.bl true) H') (fun H' => Q (.bl false) H')) N0 g tt te vs σ W
theorem pe_anyG {X : Cx} {c P : Addr} {elt tg iter : Expr} {ifs : List Expr} {scope : Scope} {own : List (Str × Nat)} {p pos gpos : Pos} {wi : TI} {g : TG} {tt : TT} {te : TE} {k : Nat}
    (hr : Room (k + 3) X.A) (hg : Gl X "any") (hm : X.mg "any" = none) (TB : TabB X.base X.mg c P) (hcode : X.env.code = .ref c) (ok : GenOk X.N X.env.scope scope own) (hN : X.N.Nodup) (hcalm : X.calm = true) (hi : PI X tg iter wi) (hp : Parts X k tg elt ifs scope g tt te)
    (hs : ∀ v, genFold iter X.env v = pure v)
    (he : starEach [.GeneratorExp elt [⟨tg, iter, ifs, 0⟩] scope gpos] X.env = (false, eval (.GeneratorExp elt [⟨tg, iter, ifs, 0⟩] scope gpos) X.env) :: starEach [] X.env := by rfl) :
    PE X (.Call (.Name "any" p) [.GeneratorExp elt [⟨tg, iter, ifs, 0⟩] scope gpos] [] pos) (tAnyG P wi g tt te (own.map (·.2))) := by
  refine ⟨fun pins s σ H Q I h => ?_⟩
  refine wpAny_Call_Name_kw (ld_blt I hg hm boot_any ?_)
  refine PyProof.Rows.callWith_builtin1 ?_ he (by rfl)
  rw [he]
  show wpAny _ _ (spliced ((false, eval (.GeneratorExp elt [⟨tg, iter, ifs, 0⟩] scope gpos) X.env) :: backTo pos (starEach [] X.env))) _ _ s
  refine Calls.spliced_cons (gen_make hr TB hcode ok hi hs I h fun a s4 gid cenv fp it tn J sc Hc go m M => ?_)
  refine Calls.spliced_nil ?_
  obtain ⟨H1, hT, hW⟩ := M.res
  obtain ⟨N0, W, ⟨mm, w⟩, turn⟩ := hW Hc hT
  have hr3 : Room (k + 1) X.A.in1.in1 := Room.in1 (Room.in1 hr)
  have hsl := M.asleep ok hN hcalm hp (B := X.A.in1.in1) hr3 M.inv.ok.frames turn w
  refine call_function_tree F.kind_any F.plain_any F.entry_any (F.args_any1 _) ?_
  unfold Builtin.«any»
  refine wpAny_bind (m := oneArg "any" _) (wpAny_pure ?_)
  refine wpAny_bind (wpAny_pyIter_gen (M.isgen _ M.obj) ?_)
  refine wpAny_pure ⟨plainId_quiet F.plain_any_loop _, any_loop (Qt := fun H' => Q (.bl true) H') (Qf := fun H' => Q (.bl false) H') (A' := X.A) hr.hd (by have := hr.dp; show X.A.depth < _; omega) M.isgen (fun b s1 ps σ' H' s2 I1 hq hos hb hk => ?_) N0 s4 hsl (Array.getElem?_eq_some_iff.mp M.fresh).1⟩
  refine ⟨.bl b, H', M.back I1 hos hb hk, rfl, ?_⟩
  cases b with
  | true => exact hq
  | false => exact hq
theorem boot_all : bootBuiltins "all" = some (.builtin "all") := by rfl
theorem pe_allG {X : Cx} {c P : Addr} {elt tg iter : Expr} {ifs : List Expr} {scope : Scope} {own : List (Str × Nat)} {p pos gpos : Pos} {wi : TI} {g : TG} {tt : TT} {te : TE} {k : Nat}
    (hr : Room (k + 3) X.A) (hg : Gl X "all") (hm : X.mg "all" = none) (hb : bootBuiltins "all" = some (.builtin "all")) (TB : TabB X.base X.mg c P) (hcode : X.env.code = .ref c) (ok : GenOk X.N X.env.scope scope own) (hN : X.N.Nodup) (hcalm : X.calm = true) (hi : PI X tg iter wi) (hp : Parts X k tg elt ifs scope g tt te)
    (hs : ∀ v, genFold iter X.env v = pure v)
    (he : starEach [.GeneratorExp elt [⟨tg, iter, ifs, 0⟩] scope gpos] X.env = (false, eval (.GeneratorExp elt [⟨tg, iter, ifs, 0⟩] scope gpos) X.env) :: starEach [] X.env := by rfl) :
    PE X (.Call (.Name "all" p) [.GeneratorExp elt [⟨tg, iter, ifs, 0⟩] scope gpos] [] pos) (tAllG P wi g tt te (own.map (·.2))) := by
  refine ⟨fun pins s σ H Q I h => ?_⟩
  refine wpAny_Call_Name_kw (ld_blt I hg hm hb ?_)
  refine PyProof.Rows.callWith_builtin1 ?_ he (by rfl)
  rw [he]
  show wpAny _ _ (spliced ((false, eval (.GeneratorExp elt [⟨tg, iter, ifs, 0⟩] scope gpos) X.env) :: backTo pos (starEach [] X.env))) _ _ s
  refine Calls.spliced_cons (gen_make hr TB hcode ok hi hs I h fun a s4 gid cenv fp it tn J sc Hc go m M => ?_)
  refine Calls.spliced_nil ?_
  obtain ⟨H1, hT, hW⟩ := M.res
  obtain ⟨N0, W, ⟨mm, w⟩, turn⟩ := hW Hc hT
  have hr3 : Room (k + 1) X.A.in1.in1 := Room.in1 (Room.in1 hr)
  have hsl := M.asleep ok hN hcalm hp (B := X.A.in1.in1) hr3 M.inv.ok.frames turn w
  refine call_function_tree F.kind_all F.plain_all F.entry_all (F.args_all1 _) ?_
  unfold Builtin.«all»
  refine wpAny_bind (m := oneArg "all" _) (wpAny_pure ?_)
  refine wpAny_bind (wpAny_pyIter_gen (M.isgen _ M.obj) ?_)
  refine wpAny_pure ⟨plainId_quiet F.plain_all_loop _, all_loop (Qt := fun H' => Q (.bl true) H') (Qf := fun H' => Q (.bl false) H') (A' := X.A) hr.hd (by have := hr.dp; show X.A.depth < _; omega) M.isgen (fun b s1 ps σ' H' s2 I1 hq hos hb hk => ?_) N0 s4 hsl (Array.getElem?_eq_some_iff.mp M.fresh).1⟩
  refine ⟨.bl b, H', M.back I1 hos hb hk, rfl, ?_⟩
  cases b with
  | true => exact hq
  | false => exact hq
end GX
namespace GX
open PySem PySem.Spec PyProof.Rows L2 GenW GxR

/-! ### collecting all -/
/-- a list that is filled -/
def hList (S : Addr) : Hold := ⟨S, fun ys o => ∃ (acc : Array Value) (c : Nat), Vals ys acc.toList ∧ o = lstObj acc c, fun _ _ ⟨_, _, _, e⟩ v q => by rw [e] at q; cases q⟩
/-- all items are wanted: Qe at the end -/
def zList (Qe : List V → Hp → Prop) : Wish := ⟨Qe, fun _ _ _ nx => nx, fun _ _ _ _ _ h => h⟩
theorem ext_loop {X G : Cx} {a S : Addr} {gid : Nat} {go : Obj} {Qe : List V → Hp → Prop} {N0 : Nat} {A' : Around} {R : Result → Shared → Prop} {res : Value} (hh : A'.handled = none) (hroom : A'.depth < recursionLimit) (hgo : ∀ h : Heap, h.get? a = some go → h.IsGen a gid) (hSa : S ≠ a) (hSc : S ≠ cStatics) (hN0 : N0 ≤ sizeLine)
    (hR : ∀ s1 ys acc c σ H s2, Inv G ([(S, lstObj acc c)] ++ [(a, go)]) σ H s1 → Vals ys acc.toList → ys.length ≤ sizeLine → Qe ys H → s2.os = s1.os → AllBare s2.gens → (∀ b o, s1.heap.get? b = some o → s2.heap.get? b = some o) → R (.ok (.ret res)) s2) :
    ∀ (n : Nat) (s : Shared), Asleep X G (some (hList S)) [(a, go)] (zList Qe) N0 A'.in1.in1 a gid n s → gid < s.gens.size → codeAny (model X.prog X.w) A' (.builtin "list.extend.loop" ⟨[.ref S, .ref a, res], []⟩) R s := by
  intro n
  induction n using Nat.strongRecOn with
  | ind n ih =>
    intro s h hlt
    refine codeAny_builtin F.entry_extend_loop ?_
    rw [Around.under_plainId F.plain_extend_loop _]
    show wpAny _ A'.in1 (pyNext (.ref a) >>= _) _ _ s
    refine wpAny_bind (wpAny_gsz (n := gid + 1) hlt (next_gx (A' := A'.in1) hh hroom h (fun v s1 gs' ys y σ H hb hn r hs0 hG hI => ?_) fun s1 ys σ H hn hs0 hG hq h' hk => ?_))
    · intro hsz
      have hsz1 : gid < s1.gens.size := by
        have q : (s1.setGen gid gs').gens.size = s1.gens.size := setGen_size _ _ _
        omega
      obtain ⟨ps, ⟨_, ⟨acc, c, rv, rfl⟩, rfl⟩, I⟩ := hG
      have hS1 : s1.heap.get? S = some (lstObj acc c) := (I.pin (S, lstObj acc c) (List.mem_append_right _ (List.mem_append_left _ (List.mem_singleton.mpr rfl)))).1
      have hg1 : s1.heap.get? a = some go := (I.pin (a, go) (List.mem_append_right _ (List.mem_append_right _ (List.mem_singleton.mpr rfl)))).1
      have hasz : acc.size < sizeLine := by
        have e1 := rv.length
        have e2 : acc.toList.length = acc.size := by simp
        omega
      show wpAny _ A'.in1 (updateSeq S (·.push v) >>= _) _ _ _
      refine wpAny_bind ?_
      refine wpAny_updateSeq hS1 rfl (wpAny_pure ⟨plainId_quiet F.plain_extend_loop _, ?_⟩) (Nat.le_of_lt hasz) (by show (acc.push v).size ≤ sizeLine + 1; rw [Array.size_push]; omega)
      have keep3 : ∀ b o, b ≠ S → s1.heap.get? b = some o → (s1.heap.update S (Obj.mapSeq (·.push v))).get? b = some o := fun b o hbS e => (Heap.get?_update_other _ _ (Ne.symm hbS)).trans e
      have hwk : Woke (some (hList S)) ys y s1 { s1 with gens := ((s1.setGen gid gs').setGen gid .running).gens, heap := s1.heap.update S (Obj.mapSeq (·.push v)) } :=
        ⟨rfl, allBare_setGen (s := s1.setGen gid gs') (allBare_setGen I.bare hb) (x := .running) (g := gid) rfl, keep3, _, Heap.get?_update_self _ hS1 rfl, acc.push v, _, by rw [Array.toList_push]; exact rv.append (.cons r .nil), rfl⟩
      obtain ⟨m, rfl, hgo2⟩ := hI _ hwk
      refine ih m (by omega) { s1.setGen gid gs' with heap := s1.heap.update S (Obj.mapSeq (·.push v)) } ⟨hgo _ (keep3 a go (Ne.symm hSa) hg1), ?_, gs', setGen_get hsz1, hgo2⟩ (by show gid < (s1.setGen gid gs').gens.size; rw [setGen_size]; exact hsz1)
      obtain ⟨mc, hns, hnn⟩ := I.nolimit
      exact ⟨mc, hns.at' fun o e => keep3 _ o (Ne.symm hSc) e, hnn⟩
    · intro _
      obtain ⟨ps, ⟨_, ⟨acc, c, rv, rfl⟩, rfl⟩, I⟩ := hG
      refine wpAny_pure ?_
      exact hR s1 ys acc c σ H _ I rv (by omega) hq rfl (allBare_setGen I.bare rfl) hk
theorem Made.asleepS {X : Cx} {pins : List (Addr × Obj)} {σ : L2.St} {elt tg iter : Expr} {ifs : List Expr} {scope : Scope} {own : List (Str × Nat)} {pos : Pos} {P : Addr} {R : It → Hp → Prop} {a : Addr} {s4 : Shared} {gid : Nat} {cenv : Env} {fp : List Addr} {it : Addr} {tn : Nat → Heap → Prop} {J : It} {sc : Shared} {Hc : Hp} {go : Obj} {m : Str → Option Value}
    (M : Made X pins σ elt tg iter ifs scope pos P R a s4 gid cenv fp it tn J sc Hc go m) (ok : GenOk X.N X.env.scope scope own) (hN : X.N.Nodup) (hcalm : X.calm = true) {k : Nat} {g : TG} {tt : TT} {te : TE} (hp : Parts X k tg elt ifs scope g tt te) {B : Around} (hB : Room (k + 1) B) (hfr : B.frames = some X.stack)
    {Z : Wish} {N0 : Nat} {W : Nat → List V → Nat → Hp → Prop} (turn : Turns J Z N0 g tt te (own.map (·.2)) σ W) {mm : Nat} (w : W 0 [] mm Hc) {h : Hold} {s6 : Shared} (hS : s4.heap.objs.size ≤ h.S) (hk : ∀ b o, s4.heap.get? b = some o → s6.heap.get? b = some o) (hgn : s6.gens = s4.gens) (hos : s6.os = s4.os) {o : Obj} (hSo : s6.heap.get? h.S = some o) (hKo : h.K [] o) :
    Asleep X (gcx X sc Hc cenv (B.deeper cenv) fp) (some h) [(a, go)] Z N0 B a gid N0 s6 := by
  have hA : B.deeper cenv = B.over (.compLoop (.GeneratorExp elt [⟨tg, iter, ifs, 0⟩] scope pos) 0 (.ref it) .none cenv) [] := over_gen.symm
  have hAf : (B.deeper cenv).frames = some (cenv :: X.stack) := Around.frames_deeper hfr
  have rA : Room k (B.deeper cenv) := hB.deeper cenv
  have I := M.begin (A := B.deeper cenv) ok hN hAf fun _ => rA.hd
  obtain ⟨cl, C, code, bi, hg⟩ := M.gen
  have fpa : ∀ p ∈ [(a, go)], p.1 ∉ fp := fun p hp hb => by
    rw [List.mem_singleton.mp hp] at hb
    have h1 := (M.fps a hb).2
    have h2 := M.young
    have h3 := M.above
    exact absurd (Nat.lt_trans (Nat.lt_of_lt_of_le h1 h2) h3) (Nat.lt_irrefl _)
  have haS : a < h.S := Nat.lt_of_lt_of_le M.lt hS
  have hscS : sc.heap.objs.size ≤ h.S := Nat.le_of_lt (Nat.lt_of_le_of_lt (Nat.le_trans M.young (Nat.le_of_lt M.above)) haS)
  have hLS : cenv.locals < h.S := Nat.lt_trans M.above haS
  have hb6 : AllBare s6.gens := by rw [hgn]; exact M.bare
  have hfresh := M.fresh
  rw [← hgn] at hfresh
  refine ⟨M.isgen _ (hk _ _ M.obj), M.lim.keeps hk, _, hfresh, rfl, ?_⟩
  have st6 : tn 0 s6.heap := M.turn.keep _ _ _ M.st fun b hb o e => hk b o (M.keep b o e)
  have hpg := hp.tgt sc Hc C cl code bi (B.deeper cenv) fp rA
  have hpt := hp.tst sc Hc C cl code bi (B.deeper cenv) fp rA
  have hpe := hp.elm sc Hc C cl code bi (B.deeper cenv) fp rA
  rw [← hg] at hpg hpt hpe
  have cne : ∀ x cc, cenv.cells.lookup x = some cc → cc ≠ h.S := fun x cc e z => by
    obtain ⟨v, ob, ho, _⟩ := I.cell x cc e
    have := Heap.lt_size ho
    rw [z] at this
    exact absurd (Nat.lt_of_lt_of_le this hS) (Nat.lt_irrefl _)
  have hap : Apart (gcx X sc Hc cenv (B.deeper cenv) fp) h.S := ⟨hscS, Nat.ne_of_gt hLS, cne⟩
  refine seg_start (S := some h) (own := own) (g := g) (tt := tt) (te := te) (σ := σ) (W := W) (J := J) hcalm (by rw [M.sc_]; exact ok.co) M.turn (B.deeper cenv) hA hpg hpt hpe hap (fun p hp b hb => ?_) fpa (fun b hb b' hb' => ?_) turn mm (s6.setGen gid .running) (s6.setGen gid .running) Hc w (SameS.refl _ _) ?_ st6 fun b hb => (M.fps b hb).1.1
  · cases hb
    rw [List.mem_singleton.mp hp]
    exact Nat.ne_of_lt haS
  · cases hb'
    exact Nat.ne_of_lt (Nat.lt_of_lt_of_le (M.fps b hb).2 hscS)
  · refine ⟨[(h.S, o)], ⟨o, hKo, rfl⟩, ?_⟩
    have I6 : Inv (gcx X sc Hc cenv (B.deeper cenv) fp) [(a, go)] (wipe σ (own.map (·.2))) Hc (s6.setGen gid .running) := I.call' (s' := s6.setGen gid .running) (ch := []) hos (Un.kept hk) (I.hok.kept hk) (allBare_setGen hb6 rfl) fun b hb => by simp at hb
    refine I6.pins_of fun p hp => ?_
    rcases List.mem_append.mp hp with z | z
    · rw [List.mem_singleton.mp z]
      refine ⟨hSo, M.inv.hok.fresh hscS, Nat.ne_of_gt hLS, fun hb => ?_, h.nocell _ _ hKo⟩
      rcases List.mem_cons.mp (M.inv.stkSub h.S hb) with z | z
      · exact Nat.ne_of_gt (Nat.lt_of_lt_of_le M.inv.lt hscS) z
      · exact M.inv.nofs hscS z
    · exact I6.pin p (List.mem_append_right _ z)
/-- collect(g): all that it hands out -/
theorem collect_gx {X : Cx} {pins : List (Addr × Obj)} {σ : L2.St} {elt tg iter : Expr} {ifs : List Expr} {scope : Scope} {own : List (Str × Nat)} {pos : Pos} {P : Addr} {R : It → Hp → Prop} {a : Addr} {s4 : Shared} {gid : Nat} {cenv : Env} {fp : List Addr} {it : Addr} {tn : Nat → Heap → Prop} {J : It} {sc : Shared} {Hc : Hp} {go : Obj} {m : Str → Option Value}
    (M : Made X pins σ elt tg iter ifs scope pos P R a s4 gid cenv fp it tn J sc Hc go m) (ok : GenOk X.N X.env.scope scope own) (hN : X.N.Nodup) (hcalm : X.calm = true) {k : Nat} {g : TG} {tt : TT} {te : TE} (hp : Parts X k tg elt ifs scope g tt te) {A : Around} (hA : Room (k + 4) A) (hfr : A.frames = some X.stack)
    {Qe : List V → Hp → Prop} {N0 : Nat} (hN0 : N0 ≤ sizeLine) {W : Nat → List V → Nat → Hp → Prop} (turn : Turns J (zList Qe) N0 g tt te (own.map (·.2)) σ W) {mm : Nat} (w : W 0 [] mm Hc) {Q : List Value → Shared → Prop} {E : Value → Shared → Prop}
    (hQ : ∀ us ys H' s', Inv X pins σ H' s' → Vals ys us → ys.length ≤ sizeLine → Qe ys H' → Q us s') : wpAny (model X.prog X.w) A (collect (.ref a)) Q E s4 := by
  have hSa : s4.heap.objs.size ≠ a := Nat.ne_of_gt M.lt
  have hcl : cStatics < s4.heap.objs.size := let ⟨_, hn, _⟩ := M.lim; hn.lt
  have hSc : s4.heap.objs.size ≠ cStatics := Nat.ne_of_gt hcl
  unfold collect
  refine wpAny_bind (wpAny_runValue (codeAny_builtin F.entry_proto_collect ?_))
  rw [Around.under_plainId F.plain_proto_collect _]
  show wpAny _ A.in1 (newList [] >>= fun l => again (.builtin "list.__iadd__" ⟨[l, .ref a], []⟩)) _ _ s4
  refine wpAny_bind (wpAny_newObj_type ?_)
  refine wpAny_pure ⟨plainId_quiet F.plain_list_iadd _, codeAny_builtin F.entry_list_iadd ?_⟩
  rw [Around.under_plainId F.plain_list_iadd _]
  have k1 : ∀ b o, s4.heap.get? b = some o → (s4.heap.push { cls := .type "list", data := .seq ([] : List Value).toArray }).get? b = some o := fun b o e => Heap.get?_push_of_some _ e
  have gty : ∀ {h : Heap}, (∀ b o, s4.heap.get? b = some o → h.get? b = some o) → h.IsGen a gid := fun {h} q => M.isgen _ (q _ _ M.obj)
  show wpAny _ A.in1 (Builtin.List.listExtendWith (.ref s4.heap.objs.size) (.ref a) (.ref s4.heap.objs.size)) _ _ _
  unfold Builtin.List.listExtendWith
  refine wpAny_bind (wpAny_typeOf (Heap.IsGen.typeIs (s := { s4 with heap := _ }) (gty k1)) ?_)
  have h1 : Builtin.List.listSameRef (.ref s4.heap.objs.size) (.ref a) = false := by simp [Builtin.List.listSameRef, hSa]
  have h2 : (Value.type "generator" == Value.type "list") = false := by decide
  have h3 : (Value.type "generator" == Value.type "tuple") = false := by decide
  simp only [h1, h2, h3, Bool.or_false, Bool.false_eq_true, if_false]
  refine wpAny_bind (wpAny_pyIter_gen (s := { s4 with heap := _ }) (gty k1) ?_)
  refine wpAny_bind (wpAny_holding ?_)
  unfold Builtin.List.listLengthHint
  refine wpAny_bind (wpAny_specialOf (Heap.IsGen.typeIs (s := { s4 with heap := _ }) (gty k1)) F.gen_no_len ?_)
  show wpAny _ A.in1 (specialOf (Value.ref a) (Str.ofString "__length_hint__") >>= _) _ _ _
  refine wpAny_bind (wpAny_specialOf (Heap.IsGen.typeIs (s := { s4 with heap := _ }) (gty k1)) F.gen_no_hint ?_)
  refine wpAny_pure ?_
  show wpAny _ A.in1 (rule "list.extend.makes-room" >>= fun _ => Builtin.List.listTouch (.ref s4.heap.objs.size) >>= fun _ =>
    again (.builtin "list.extend.loop" ⟨[.ref s4.heap.objs.size, .ref a, .ref s4.heap.objs.size], []⟩)) _ _ _
  refine wpAny_bind (wpAny_rule ?_)
  have hS₁ : (s4.heap.push { cls := .type "list", data := .seq ([] : List Value).toArray }).get? s4.heap.objs.size = some { cls := .type "list", data := .seq ([] : List Value).toArray } := Heap.get?_push_size _ rfl
  refine wpAny_bind ?_
  show wpAny _ A.in1 (updateSeq s4.heap.objs.size (·.push .none) >>= fun _ => updateSeq s4.heap.objs.size (·.pop)) _ _ _
  refine wpAny_bind (wpAny_updateSeq hS₁ rfl ?_)
  have hS₂ := Heap.get?_update_self (Obj.mapSeq (·.push Value.none)) hS₁ rfl
  refine wpAny_updateSeq hS₂ rfl ?_
  have hS₃ := Heap.get?_update_self (Obj.mapSeq (·.pop)) hS₂ rfl
  have up : ∀ (h : Heap) (f : Obj → Obj), (∀ b o, s4.heap.get? b = some o → h.get? b = some o) → ∀ b o, s4.heap.get? b = some o → (h.update s4.heap.objs.size f).get? b = some o := fun h f q b o e =>
    (Heap.get?_update_other _ _ (Ne.symm (Nat.ne_of_lt (Heap.lt_size e)))).trans (q b o e)
  have k3 := up _ (Obj.mapSeq (·.pop)) (up _ (Obj.mapSeq (·.push Value.none)) k1)
  have hr3 : Room (k + 1) A.in1.in1 := Room.in1 (Room.in1 (hA.mono (by omega)))
  have hsl := M.asleepS ok hN hcalm hp (B := A.in1.in1) hr3 hfr turn w (h := hList s4.heap.objs.size) (s6 := { s4 with heap := _ }) (Nat.le_refl _) k3 rfl rfl hS₃ ⟨#[], _, .nil, rfl⟩
  refine wpAny_pure ⟨plainId_quiet F.plain_extend_loop _, ext_loop (Qe := Qe) (A' := A) hA.hd (by have := hA.dp; omega) M.isgen hSa hSc hN0 (fun s1 ys acc c σ' H' s2 I1 rv hl hq hos hb hk => ?_) N0 _ hsl (Array.getElem?_eq_some_iff.mp M.fresh).1⟩
  have hS1 : s1.heap.get? s4.heap.objs.size = some (lstObj acc c) := (I1.pin (s4.heap.objs.size, lstObj acc c) (List.mem_append_right _ (List.mem_append_left _ (List.mem_singleton.mpr rfl)))).1
  show wpAny _ A (load s4.heap.objs.size >>= _) _ _ s2
  refine wpAny_bind (wpAny_load (hk _ _ hS1) ?_)
  exact wpAny_pure (hQ _ ys H' s2 (M.back I1 hos hb hk) rv hl hq)
end GX
namespace GX
open PySem PySem.Spec PyProof.Rows L2 GenW GxR

theorem code_tuple_gx {X : Cx} {A : Around} {a : Addr} {gid : Nat} {s : Shared} {Q₁ : Value → Shared → Prop} {E : Value → Shared → Prop} (hg : s.heap.IsGen a gid)
    (h : ∀ {Q : List Value → Shared → Prop} {E' : Value → Shared → Prop}, (∀ us s', us.length ≤ sizeLine ∧ Q₁ (.ref s'.heap.objs.size) { s' with heap := s'.heap.push { cls := .type "tuple", data := .seq us.toArray } } → Q us s') → wpAny (model X.prog X.w) A.in1 (collect (.ref a)) Q E' s) :
    codeAny (model X.prog X.w) A (.call (.builtin "tuple.__new__") ⟨[.type "tuple", .ref a], []⟩) (wants Q₁ E) s := by
  refine codeAny_of_tree ?_
  show wpAny _ A.in1 (do checkBuiltinCall "tuple.__new__" ⟨[.type "tuple", .ref a], []⟩; again (.builtin "tuple.__new__" ⟨[.type "tuple", .ref a], []⟩)) _ _ s
  refine wpAny_bind (wpAny_of_eq (F.newCall_tuple_1 _) (wpAny_pure ⟨plainId_quiet F.plain_tuple_new _, codeAny_builtin F.entry_tuple_new ?_⟩))
  rw [Around.under_plainId F.plain_tuple_new _]
  have hsub := sub_tuple_self
  have hinit := init_tuple_lookup
  have hmh := madeHere_tuple
  have hTI := hg.typeIs
  wp_walk using wpAny_typeOf hTI, h
  intro us s' ⟨hl, hq⟩
  show wpAny _ _ (Builtin.Tuple.tupleExact us.toArray >>= fun v => ret v) _ _ _
  unfold Builtin.Tuple.tupleExact
  refine wpAny_bind (wpAny_newObj_type ?_ (by show us.toArray.size ≤ sizeLine; simpa using hl))
  refine wpAny_pure ?_
  exact hq
/-- tuple(elt for tg in iter if ..) -/
def tTupG (P : Addr) (wi : TI) (g : TG) (tt : TT) (te : TE) (vs : List Nat) : TE := fun σ H Q => wi σ H fun J H1 => TabG H1 P ∧ ∀ Hc, Tabbed P H1 Hc →
  ∃ N0 W, N0 ≤ sizeLine ∧ (∃ m, W 0 [] m Hc) ∧ Turns J (zList fun ys H' => ∀ S, H' S = none → Q (.ref S) (upd H' S (.tup ys))) N0 g tt te vs σ W
theorem pe_tupG {X : Cx} {c P : Addr} {elt tg iter : Expr} {ifs : List Expr} {scope : Scope} {own : List (Str × Nat)} {p pos gpos : Pos} {nm : Str} {wi : TI} {g : TG} {tt : TT} {te : TE} {k : Nat}
    (hr : Room (k + 6) X.A) (hg : Gl X nm) (hm : X.mg nm = none) (hv : bootBuiltins nm = some (.type "tuple")) (TB : TabB X.base X.mg c P) (hcode : X.env.code = .ref c) (ok : GenOk X.N X.env.scope scope own) (hN : X.N.Nodup) (hcalm : X.calm = true) (hi : PI X tg iter wi) (hp : Parts X k tg elt ifs scope g tt te)
    (hs : ∀ v, genFold iter X.env v = pure v) (hnm : nm ≠ "__name__" := by decide) (hdb : (nm == ("__debug__" : Str)) = false := by decide)
    (he : starEach [.GeneratorExp elt [⟨tg, iter, ifs, 0⟩] scope gpos] X.env = (false, eval (.GeneratorExp elt [⟨tg, iter, ifs, 0⟩] scope gpos) X.env) :: starEach [] X.env := by rfl) :
    PE X (.Call (.Name nm p) [.GeneratorExp elt [⟨tg, iter, ifs, 0⟩] scope gpos] [] pos) (tTupG P wi g tt te (own.map (·.2))) := by
  refine ⟨fun pins s σ H Q I h => ?_⟩
  refine wpAny_Call_Name_kw (ld_blt I hg hm hv ?_ hnm hdb)
  refine PyProof.Rows.callWith_type1 ?_ he rfl
  rw [he]
  show wpAny _ _ (spliced ((false, eval (.GeneratorExp elt [⟨tg, iter, ifs, 0⟩] scope gpos) X.env) :: backTo pos (starEach [] X.env))) _ _ s
  refine Calls.spliced_cons (gen_make hr TB hcode ok hi hs I h fun a s4 gid cenv fp it tn J sc Hc go m M => ?_)
  refine Calls.spliced_nil ?_
  obtain ⟨H1, hT, hW⟩ := M.res
  obtain ⟨N0, W, hN0, ⟨mm, w⟩, turn⟩ := hW Hc hT
  refine callType_codes (Q₁ := fun obj s₁ => s₁.TypeIs obj "tuple" ∧ EP X pins σ Q obj s₁) F.called_tuple (F.typeCall_tuple_1 _) F.entry_object_init
    (code_tuple_gx (M.isgen _ M.obj) fun {Q' E'} hq => collect_gx M ok hN hcalm hp (A := X.A.in1.in1) (Room.in1 (Room.in1 hr)) M.inv.ok.frames hN0 turn w fun us ys H' s' I1 rv hl hE => hq us s' ⟨by rw [← rv.length]; exact hl, ⟨_, Heap.get?_push_size _ rfl, rfl⟩, ?_⟩) fun obj s₁ h₁ => ?_
  · have hn : H' s'.heap.objs.size = none := I1.hok.fresh (Nat.le_refl _)
    exact ⟨.ref s'.heap.objs.size, upd H' s'.heap.objs.size (.tup ys), I1.laid (t' := s'.toks) (fun b o e => Heap.get?_push_of_some _ e) (Nat.le_refl _) ⟨hl, us, rv, ⟨_, Heap.get?_push_size _ rfl, rfl, 0, rfl⟩⟩, rfl, hE _ hn⟩
  · exact ⟨h₁.1, F.args_object_init_2 obj _, object_init_meets F.called_tuple.init.lookup F.called_tuple.made (by decide) X.prog X.w X.A.in1 _ s₁ ⟨h₁.1, rfl, h₁.2⟩⟩
end GX
namespace GX
open PySem PySem.Spec PyProof.Rows L2 GenW GxR

/-! ### sum -/
def vI : V → Int
  | .int i => i
  | _ => 0
def sumV : List V → Int
  | [] => 0
  | v :: vs => vI v + sumV vs
theorem sumV_app : ∀ (xs : List V) (y : V), sumV (xs ++ [y]) = sumV xs + vI y
  | [], y => by rw [List.nil_append, sumV, sumV, sumV]; omega
  | x :: xs, y => by rw [List.cons_append, sumV, sumV, sumV_app xs y]; omega
def hSum (S : Addr) : Hold := ⟨S, fun ys o => ∃ (t : Tok) (c : Nat), o = { cls := .type "list", dict := none, data := .seq #[.int (sumV ys) t] c, slots := #[] }, fun _ _ ⟨_, _, e⟩ v q => by rw [e] at q; cases q⟩
def zSum (Qe : Int → Hp → Prop) : Wish := ⟨fun ys H => Qe (sumV ys) H, fun ys y _ nx => ∃ i, y = .int i ∧ InLong i ∧ InLong (sumV ys + i) ∧ nx, fun _ _ _ _ _ h ⟨i, e, a, b, q⟩ => ⟨i, e, a, b, h q⟩⟩
theorem sum_loop {X G : Cx} {a S : Addr} {gid : Nat} {go : Obj} {Qe : Int → Hp → Prop} {N0 : Nat} {A' : Around} {R : Result → Shared → Prop} (hh : A'.handled = none) (hroom : A'.depth < recursionLimit) (hgo : ∀ h : Heap, h.get? a = some go → h.IsGen a gid) (hSa : S ≠ a) (hSc : S ≠ cStatics)
    (hR : ∀ s1 ps i t σ H s2, Inv G (ps ++ [(a, go)]) σ H s1 → Qe i H → s2.os = s1.os → AllBare s2.gens → (∀ b o, s1.heap.get? b = some o → s2.heap.get? b = some o) → R (.ok (.ret (.int i t))) s2) :
    ∀ (n : Nat) (s : Shared) (ys0 : List V) (t : Tok) (c : Nat), s.heap.get? S = some { cls := .type "list", dict := none, data := .seq #[.int (sumV ys0) t] c, slots := #[] } → n + ys0.length = N0 → Asleep X G (some (hSum S)) [(a, go)] (zSum Qe) N0 A'.in1.in1 a gid n s → gid < s.gens.size → codeAny (model X.prog X.w) A' (.builtin "sum.loop" ⟨[.ref a, .ref S, rawInt 0, rawInt 0], []⟩) R s := by
  intro n
  induction n using Nat.strongRecOn with
  | ind n ih =>
    intro s ys0 t0 c0 hS hn0 h hlt
    refine codeAny_builtin F.entry_sum_loop ?_
    rw [Around.under_plainId F.plain_sum_loop _]
    show wpAny _ A'.in1 (seqItems? (.ref S) >>= _) _ _ s
    refine wpAny_bind (wpAny_seqItems hS rfl ?_)
    show wpAny _ A'.in1 (tryCatch (pyNext (.ref a)) _ >>= _) _ _ s
    refine wpAny_bind (wpAny_tryCatch (wpAny_gsz (n := gid + 1) hlt (next_gx (A' := A'.in1) hh hroom h (fun v s1 gs' ys y σ H hb hn r hs0 hG hI => ?_) fun s1 ys σ H hn hs0 hG hq h' hk => ?_)))
    · intro hsz
      have hsz1 : gid < s1.gens.size := by
        have q : (s1.setGen gid gs').gens.size = s1.gens.size := setGen_size _ _ _
        omega
      obtain ⟨ps, ⟨o, ⟨t, c, rfl⟩, rfl⟩, I⟩ := hG
      have hS1 : s1.heap.get? S = some { cls := .type "list", dict := none, data := .seq #[.int (sumV ys) t] c, slots := #[] } := (I.pin (S, _) (List.mem_append_right _ (List.mem_append_left _ (List.mem_singleton.mpr rfl)))).1
      have hg1 : s1.heap.get? a = some go := (I.pin (a, go) (List.mem_append_right _ (List.mem_append_right _ (List.mem_singleton.mpr rfl)))).1
      have hsame : s1.heap.get? S = s.heap.get? S := hs0
      have hsum : sumV ys = sumV ys0 := by
        rw [hS1, hS] at hsame
        have := congrArg (fun o : Option Obj => o.map Obj.data) hsame
        simp at this
        exact this.1.1
      obtain ⟨i, rfl, f1, f2, nx⟩ := hI
      obtain ⟨ti, rfl⟩ := r
      have hc : ((decide (-(2 ^ 63) ≤ i) && decide (i < 2 ^ 63)) && (decide (-(2 ^ 63) ≤ sumV ys0 + i) && decide (sumV ys0 + i < 2 ^ 63))) = true := by
        rw [hsum] at f2
        simp only [Bool.and_eq_true, decide_eq_true_eq]
        exact ⟨⟨f1.1, f1.2⟩, f2.1, f2.2⟩
      show wpAny _ A'.in1 (if (_ : Bool) = true then (mkInt (sumV ys0 + i) >>= _) else _) _ _ _
      split
      · refine wpAny_bind (wpAny_mkInt ?_)
        show wpAny _ A'.in1 (updateSeq S (fun _ => #[.int (sumV ys0 + i) _]) >>= _) _ _ _
        refine wpAny_bind ?_
        have keep3 : ∀ (f : Obj → Obj) b o, b ≠ S → s1.heap.get? b = some o → (s1.heap.update S f).get? b = some o := fun f b o hbS e => (Heap.get?_update_other _ _ (Ne.symm hbS)).trans e
        refine wpAny_updateSeq hS1 rfl (wpAny_pure ⟨plainId_quiet F.plain_sum_loop _, ?_⟩)
        have hS2 := Heap.get?_update_self (Obj.mapSeq fun _ => #[Value.int (sumV ys0 + i) s1.toks]) hS1 rfl
        have es : sumV ys0 + i = sumV (ys ++ [V.int i]) := by rw [sumV_app, hsum]; rfl
        have hwk : Woke (some (hSum S)) ys (V.int i) s1 { s1 with gens := ((s1.setGen gid gs').setGen gid .running).gens, toks := s1.toks + 1, heap := s1.heap.update S (Obj.mapSeq fun _ => #[Value.int (sumV ys0 + i) s1.toks]) } :=
          ⟨rfl, allBare_setGen (s := s1.setGen gid gs') (allBare_setGen I.bare hb) (x := .running) (g := gid) rfl, keep3 _, _, hS2, s1.toks, _, by rw [es]; rfl⟩
        obtain ⟨m, rfl, hgo2⟩ := nx _ hwk
        refine ih m (by omega) { s1.setGen gid gs' with toks := s1.toks + 1, heap := s1.heap.update S (Obj.mapSeq fun _ => #[Value.int (sumV ys0 + i) s1.toks]) } (ys ++ [V.int i]) s1.toks _ (by rw [← es]; exact hS2) (by rw [List.length_append]; simp only [List.length_cons, List.length_nil]; omega) ⟨hgo _ (keep3 _ a go (Ne.symm hSa) hg1), ?_, gs', setGen_get hsz1, hgo2⟩ (by show gid < (s1.setGen gid gs').gens.size; rw [setGen_size]; exact hsz1)
        obtain ⟨mc, hns, hnn⟩ := I.nolimit
        exact ⟨mc, hns.at' fun o e => keep3 _ _ o (Ne.symm hSc) e, hnn⟩
      · rename_i hneg
        exact absurd hc hneg
    · intro _
      obtain ⟨ps, ⟨o, ⟨t, c, rfl⟩, rfl⟩, I⟩ := hG
      have hS1 : s1.heap.get? S = some { cls := .type "list", dict := none, data := .seq #[.int (sumV ys) t] c, slots := #[] } := (I.pin (S, _) (List.mem_append_right _ (List.mem_append_left _ (List.mem_singleton.mpr rfl)))).1
      have hsame : s1.heap.get? S = s.heap.get? S := hs0
      have hsum : sumV ys = sumV ys0 := by
        rw [hS1, hS] at hsame
        have := congrArg (fun o : Option Obj => o.map Obj.data) hsame
        simp at this
        exact this.1.1
      have hq : Qe (sumV ys) H := hq
      rw [hsum] at hq
      exact wpAny_pure (hR s1 _ (sumV ys0) t0 σ H _ I hq rfl (allBare_setGen I.bare rfl) hk)
/-- sum(elt for tg in iter if ..) of ints -/
def tSumG (P : Addr) (wi : TI) (g : TG) (tt : TT) (te : TE) (vs : List Nat) : TE := fun σ H Q => wi σ H fun J H1 => TabG H1 P ∧ ∀ Hc, Tabbed P H1 Hc →
  ∃ N0 W, (∃ m, W 0 [] m Hc) ∧ Turns J (zSum fun i H' => Q (.int i) H') N0 g tt te vs σ W
theorem pe_sumG {X : Cx} {c P : Addr} {elt tg iter : Expr} {ifs : List Expr} {scope : Scope} {own : List (Str × Nat)} {p pos gpos : Pos} {wi : TI} {g : TG} {tt : TT} {te : TE} {k : Nat}
    (hr : Room (k + 3) X.A) (hg : Gl X "sum") (hm : X.mg "sum" = none) (hb : bootBuiltins "sum" = some (.builtin "sum")) (TB : TabB X.base X.mg c P) (hcode : X.env.code = .ref c) (ok : GenOk X.N X.env.scope scope own) (hN : X.N.Nodup) (hcalm : X.calm = true) (hi : PI X tg iter wi) (hp : Parts X k tg elt ifs scope g tt te)
    (hs : ∀ v, genFold iter X.env v = pure v)
    (he : starEach [.GeneratorExp elt [⟨tg, iter, ifs, 0⟩] scope gpos] X.env = (false, eval (.GeneratorExp elt [⟨tg, iter, ifs, 0⟩] scope gpos) X.env) :: starEach [] X.env := by rfl) :
    PE X (.Call (.Name "sum" p) [.GeneratorExp elt [⟨tg, iter, ifs, 0⟩] scope gpos] [] pos) (tSumG P wi g tt te (own.map (·.2))) := by
  refine ⟨fun pins s σ H Q I h => ?_⟩
  refine wpAny_Call_Name_kw (ld_blt I hg hm hb ?_)
  refine PyProof.Rows.callWith_builtin1 ?_ he (by rfl)
  rw [he]
  show wpAny _ _ (spliced ((false, eval (.GeneratorExp elt [⟨tg, iter, ifs, 0⟩] scope gpos) X.env) :: backTo pos (starEach [] X.env))) _ _ s
  refine Calls.spliced_cons (gen_make hr TB hcode ok hi hs I h fun a s4 gid cenv fp it tn J sc Hc go m M => ?_)
  refine Calls.spliced_nil ?_
  obtain ⟨H1, hT, hW⟩ := M.res
  obtain ⟨N0, W, ⟨mm, w⟩, turn⟩ := hW Hc hT
  have hr3 : Room (k + 1) X.A.in1.in1 := Room.in1 (Room.in1 hr)
  have hSa : s4.heap.objs.size ≠ a := Nat.ne_of_gt M.lt
  have hcl : cStatics < s4.heap.objs.size := let ⟨_, hn, _⟩ := M.lim; hn.lt
  have hSc : s4.heap.objs.size ≠ cStatics := Nat.ne_of_gt hcl
  refine call_function_tree F.kind_sum F.plain_sum F.entry_sum (F.args_sum1 _) ?_
  unfold Builtin.«sum»
  simp only [List.length_cons, List.length_nil]
  rw [if_neg (by decide)]
  refine wpAny_bind (wpAny_of_eq (show Builtin.Builtins.bindParams "sum" ["start"] 0 { } = pure [none] from rfl) ?_)
  refine wpAny_bind (wpAny_pyIter_gen (M.isgen _ M.obj) ?_)
  refine wpAny_bind (wpAny_mkInt ?_)
  refine wpAny_bind (wpAny_pure ?_)
  simp only [List.forIn_cons, List.forIn_nil]
  refine wpAny_bind (wpAny_bind (wpAny_bind (wpAny_isInstance (T := "int") (b := false) (typeIs_int _ _ _) PySem.sub_int_str ?_)))
  simp only [Bool.false_eq_true, if_false]
  refine wpAny_pure (wpAny_bind (wpAny_bind (wpAny_isInstance (T := "int") (b := false) (typeIs_int _ _ _) PySem.sub_int_bytes ?_)))
  simp only [Bool.false_eq_true, if_false]
  refine wpAny_pure (wpAny_bind (wpAny_bind (wpAny_isInstance (T := "int") (b := false) (typeIs_int _ _ _) PySem.sub_int_bytearray ?_)))
  simp only [Bool.false_eq_true, if_false]
  refine wpAny_pure (wpAny_pure ?_)
  refine wpAny_bind (wpAny_newObj_type ?_)
  have hS₁ : ∀ t : Tok, (s4.heap.push { cls := .type "list", data := .seq #[Value.int 0 t] }).get? s4.heap.objs.size = some { cls := .type "list", data := .seq #[Value.int 0 t] } := fun t => Heap.get?_push_size _ rfl
  have hsl := fun t => M.asleepS ok hN hcalm hp (B := X.A.in1.in1) hr3 M.inv.ok.frames turn w (h := hSum s4.heap.objs.size) (s6 := { s4 with heap := s4.heap.push { cls := .type "list", data := .seq #[Value.int 0 t] }, toks := s4.toks + 1 }) (Nat.le_refl _) (fun b o e => Heap.get?_push_of_some _ e) rfl rfl (hS₁ t) ⟨t, 0, rfl⟩
  refine wpAny_pure ⟨plainId_quiet F.plain_sum_loop _, sum_loop (Qe := fun i H' => Q (.int i) H') (A' := X.A) hr.hd (by have := hr.dp; show X.A.depth < _; omega) M.isgen hSa hSc (fun s1 ps i t σ' H' s2 I1 hq hos hb hk => ?_) N0 _ [] _ 0 (hS₁ _) (Nat.add_zero _) (hsl _) (Array.getElem?_eq_some_iff.mp M.fresh).1⟩
  exact ⟨.int i, H', M.back I1 hos hb hk, ⟨t, rfl⟩, hq⟩
end GX
namespace GX
open PySem PySem.Spec PyProof.Rows L2 LamX
/-- each def's code object and its table, empty at the law's start -/
def TabsAt (q : Program) (mg : Str → Option Value) (h : Heap) : Prop := ∀ d ∈ recsOf q, ∃ a o fd c P, mg d.name = some (.ref a) ∧ h.get? a = some o ∧ o.data = .func fd ∧ fd.code = .ref c ∧ h.IsCode c P #[] ∧ h.TableAt c P #[]
theorem walk_ofAll {l : PySem.W.OpenLaw} {n k : Nat} {q : Program} {loose : List Str} {XP : (Str → Option Value) → Heap → Prop} {YP : World → Heap → Prop} {d : DefRec} {K : Params → PySem.W.Frag} {CX : World → CXT} {x : Str}
    (hn : l.most = some n) (hn2 : n ≤ sizeLine) (hdf : d.params.defaults = []) (hr : Room k callerA) (hY : ∀ (w : World) (h : Heap), YP w h → (K w.params).In h)
    (F : ∀ (w : World) (mg : Str → Option Value) (fa : Addr) (h : Heap), YP w h → (K w.params).In h → h.Ns mainGlobals mg → mg d.name = some (.ref fa) → TabsAt q mg h → LawAtS l w (K w.params) (CX w) k n x mg fa h)
    (hCX : ∀ (w : World) (H : Hp) (s : Shared) (e : Value) (s' : Shared), CX w [] H s (fun _ _ _ => False) e s' → False) :
    PySem.W.WalkO q loose XP YP l.row.toRowW d [] (fun f vs => PySem.call f vs) := by
  refine Att.attach_callB hn hdf fun w s₀ s₁ mg mb fa o pm cd doc a vs ns G Y ho hd hcd hmg hobj hints hlen hbits hg => ?_
  have KX := hY w _ Y
  obtain ⟨fd, cs, sp, hT, nT, C, hb, hsp, hF⟩ := F w mg fa _ Y KX G.T.g hmg G.T.tab
  exact law_callTs KX G.T.g G.T.b G.T.builtins G.T.nolimit hg hT nT C G.T.bmain hobj hints (Nat.le_trans hlen hn2) hr hF hb (fun H hH hS => hsp H a ns hlen hbits hH hS) fun H e s' => hCX w H s₁ e s'
end GX
namespace SX
open PySem PySem.Spec PyProof.Rows L2
noncomputable section
open Classical
variable [Tabs]

/-! ### the generator's context -/
theorem genOk_by {N : List Str} {sc scope : Scope} {own : List (Str × Nat)} (h : genB N sc scope own = true) : GX.GenOk N sc scope own := by
  unfold genB at h
  simp only [Bool.and_eq_true, decide_eq_true_eq] at h
  obtain ⟨⟨⟨⟨⟨⟨⟨⟨h1, h2⟩, h3⟩, h4⟩, h5⟩, h6⟩, h7⟩, h8⟩, h9⟩ := h
  refine ⟨h1, by simpa using h2, h3, ?_, fun y hy => ?_, fun y hy => ?_, fun p hp => ?_, fun y hy e => ?_, fun y hy e => ?_⟩
  · intro z
    rw [List.contains_iff_mem.mpr z] at h4
    cases h4
  · exact of_decide_eq_true (List.all_eq_true.mp h5 y hy)
  · exact of_decide_eq_true (List.all_eq_true.mp h6 y hy)
  · exact of_decide_eq_true (List.all_eq_true.mp h7 p hp)
  · have := List.all_eq_true.mp h8 y hy
    simp only [Bool.or_eq_true, Bool.not_eq_true', decide_eq_false_iff_not, decide_eq_true_eq] at this
    rcases this with (z | z) | z
    · exact absurd e z
    · exact .inl z
    · exact .inr z
  · have := List.all_eq_true.mp h9 y hy
    simp only [Bool.or_eq_true, Bool.not_eq_true', decide_eq_false_iff_not] at this
    rcases this with (z | z) | z
    · exact absurd e z
    · exact .inl (List.contains_iff_mem.mp z)
    · refine .inr fun q => ?_
      rw [List.contains_iff_mem.mpr q] at z
      cases z
theorem Fits.gen {c : Cn} {F : Fns} {X : Cx} (f : Fits c F X) (hg : c.g = true) : ∃ k, Room (k + 6) X.A ∧ ∀ (s : Shared) (H : Hp) (scope : Scope) (C : Addr) (cl : List (Str × Addr)) (code : Value) (bi : Addr) (A : Around) (fp : List Addr), Room k A →
    Fits (inCtx c scope) F (GX.gcx X s H (genEnv scope cl C code bi X.env) A fp) := by
  obtain ⟨k, _, h2, h3⟩ := f.rm
  refine ⟨k, h2 hg, fun s H scope C cl code bi A fp hr => ?_⟩
  exact {
    calm := f.calm
    N := f.N
    nd := f.nd
    sc := rfl
    un := by have := hr.un; show A.units + 65 < cLine; omega
    xe := rfl
    bl := f.bl
    co := fun x k h => ⟨(f.co x k h).ex⟩
    gx := fun z => by cases z
    rm := ⟨k, hr, fun z => by (cases z), fun g hg => ⟨(h3 g hg).ex⟩⟩ }
theorem gen_tgt {c : Cn} {F : Fns} {X : Cx} {scope : Scope} {t : Tg} {tg : Expr} {own : List Nat} (f : Fits (inCtx c scope) F X) (h3 : (slotsT t).all (fun i => own.contains i) = true) (h4 : own.all (fun i => decide (scope.names.lookup (c.N.getD i "") = some .local)) = true) (h5 : ckT (inCtx c scope) t tg = true) : PG X tg (TgS X.K t) := by
  refine pg_T f.calm f.N f.nd f.sc t tg h5 fun i hi x hx => .inr ?_
  have hio : i ∈ own := by
    have := List.all_eq_true.mp h3 i hi
    simpa using this
  have hl := of_decide_eq_true (List.all_eq_true.mp h4 i hio)
  have ex : c.N.getD i "" = x := by
    rw [List.getD_eq_getElem?_getD, show c.N[i]? = some x from hx]
    rfl
  rw [ex] at hl
  rw [f.sc]
  exact hl
theorem slots_own {t : Tg} {own : List Nat} (h3 : (slotsT t).all (fun i => own.contains i) = true) : ∀ i ∈ slotsT t, i ∈ own := fun i hi => by
  have := List.all_eq_true.mp h3 i hi
  simpa using this
theorem own_map (N : List Str) (own : List Nat) : (ownP N own).map (·.2) = own := by
  unfold ownP
  rw [List.map_map]
  exact List.map_id' own

/-! ### a table grows -/
theorem step_tab {ι : List Addr} {H H' : Hp} {P : Addr} (h : GxR.TabG H P) (t : GxR.Tabbed P H H') : Step ι H ι H' := by
  obtain ⟨ps, e, _⟩ := h
  obtain ⟨⟨ps', e', t'⟩, k⟩ := t
  have ne : ∀ b o, H b = some o → (∀ qs, o ≠ .tbl qs) → b ≠ P := fun b o q n z => by
    rw [z, e] at q
    cases q
    exact n _ rfl
  exact {
    pre := ⟨[], by simp⟩
    tup := fun a xs q => by rw [k a (ne a _ q fun _ z => by cases z)]; exact q
    frz := fun a o u q => by rw [k a (ne a _ q fun _ z => by cases z)]; exact q
    keep := fun a o q _ n => by rw [k a (ne a o q n)]; exact q
    tabs := fun a qs q => by
      by_cases ha : a = P
      · rw [ha]
        exact ⟨ps', e', fun _ => t'⟩
      · exact ⟨qs, by rw [k a ha]; exact q, id⟩
    new := fun a h1 h2 => absurd h1 h2 }
theorem SR.same {K : PySem.W.Frag} {ι : List Addr} {S : Store} {H H' : Hp} (s : SR K ι S H) (st : Step ι H ι H') (k : ∀ a xs, H a = some (.lst xs) → H' a = some (.lst xs)) : SR K ι S H' :=
  ⟨s.nd, s.len, fun l x a e1 e2 => by
    have q := s.at_ l x a e1 e2
    cases x with
    | lst ds =>
      obtain ⟨xs, h1, h2⟩ := q
      exact ⟨xs, k _ _ h1, Reps.step st ds xs h2⟩, fun p hp => tabG_step st (s.tb p hp)⟩
theorem SR.tabbed {K : PySem.W.Frag} {ι : List Addr} {S : Store} {H H' : Hp} {P : Addr} (s : SR K ι S H) (h : GxR.TabG H P) (t : GxR.Tabbed P H H') : SR K ι S H' := by
  refine s.same (step_tab h t) fun a xs e => ?_
  rw [t.2 a]
  · exact e
  · intro z
    obtain ⟨ps, q, _⟩ := h
    rw [z, q] at e
    cases e

/-! ### tuple(..), any(..), all(..), sum(..) of a generator expression -/
theorem tup_read {K : PySem.W.Frag} {F : Fns} {elt : E} {t : Tg} {it : It} {cs : Es} {own : List Nat} {σ : L2.St} {H : Hp} {Q : VK} {cA P : Addr} (hP : (cA, P) ∈ Tabs.cs) (hsl : ∀ i ∈ slotsT t, i ∈ own)
    (h : RdE K F (.tupG elt t it cs own) σ H Q) : GX.tTupG P (RdI K F it) (TgS K t) (RdB K fun e s => evTs F cs e s) (RdE K F elt) own σ H Q := by
  obtain ⟨ι, env, S, re, sr, g⟩ := h
  unfold evE at g
  obtain ⟨w, S1, ew, g1⟩ := got_bnd g
  obtain ⟨ds, S2, el, g2⟩ := got_bnd g1
  refine ⟨ι, env, S, w, S1, re, sr, ew, fun ι1 H1 J st1 sr1 wk => ⟨sr1.tb _ hP, fun Hc hT => ?_⟩⟩
  have re1 := re.step st1
  have g3 := got_step st1 g2
  have stT := step_tab (ι := ι1) (sr1.tb _ hP) hT
  have srT := sr1.tabbed (sr1.tb _ hP) hT
  let Wi : Nat → List V → Hp → Prop := fun i ys Hc => ∃ ιc Sc acc, Step ι1 H1 ιc Hc ∧ SR K ιc Sc Hc ∧ Reps K ιc Hc acc ys ∧ i ≤ w.items.length ∧
    lcL w t env own (fun e s => evTs F cs e s) (fun e s => evE F elt e s) (w.items.drop i) acc Sc = .ok ds S2
  refine ⟨sizeLine, fun i ys m Hc => m = w.items.length - i ∧ Wi i ys Hc, Nat.le_refl _, ⟨w.items.length, by simp, ι1, S1, [], stT, srT, Reps.nil, Nat.zero_le _, by simpa using el⟩, ?_⟩
  rintro i ys m Hc ⟨rfl, ιc, Sc, acc, stc, src, ra, hi, eL⟩
  by_cases hlt : i < w.items.length
  · refine .inr ?_
    rw [List.drop_eq_getElem_cons hlt] at eL
    unfold lcL at eL
    split at eL
    · rename_i here
      split at eL
      · rename_i env1 e1
        refine ⟨wk.go i ιc Hc Sc stc.toMono src here hlt, Wi (i + 1), fun ys' H' hw => ⟨w.items.length - (i + 1), by omega, rfl, hw⟩, fun x Hy hy => ?_⟩
        obtain ⟨rd, sty, sry⟩ := wk.yld i ιc Hc Sc x Hy w.items[i] stc.toMono src here (List.getElem?_eq_getElem hlt) hy
        have stcy := stc.trans sty
        have ray := Reps.step sty acc ys ra
        refine ⟨ιc, Sc, wipeE env own, w.items[i], env1, (re1.step stcy).wiped own, sry, rd, e1, fun σ1 re2 wok => ⟨?_, ?_⟩⟩
        · rw [wok own hsl]
          exact wipe_idem σ own
        · obtain ⟨b, S3, eb, el2⟩ := bnd_eq_ok eL
          refine ⟨ιc, env1, Sc, re2, sry, b, S3, eb, fun ι3 H3 b' st3 sr3 hb => ?_⟩
          subst hb
          have ra3 := Reps.step st3 acc ys ray
          cases b with
          | true =>
            rw [if_pos rfl] at el2 ⊢
            obtain ⟨y, S4, ey, el3⟩ := bnd_eq_ok el2
            refine ⟨ι3, env1, S3, re2.step st3, sr3, y, S4, ey, fun ι4 H4 yv st4 sr4 ry => ?_⟩
            split at el3
            · rename_i hl
              have ra4 := Reps.step st4 acc ys ra3
              refine ⟨by rw [← line_eq, ← ra4.len]; exact hl, ι4, S4, acc ++ [y], (stcy.trans st3).trans st4, sr4, ?_, hlt, el3⟩
              exact ra4.append (.cons ry .nil)
            · cases el3
          | false =>
            rw [if_neg Bool.false_ne_true] at el2 ⊢
            exact ⟨ι3, S3, acc, stcy.trans st3, sr3, ra3, hlt, el2⟩
      · cases eL
    · cases eL
  · have hi2 : i = w.items.length := by omega
    subst hi2
    rw [List.drop_length] at eL
    unfold lcL at eL
    split at eL
    · rename_i here
      cases eL
      refine .inl ⟨wk.stop _ ιc Hc _ stc.toMono src here (Nat.le_refl _), ?_⟩
      exact got_tup (got_step stc g3) src ra
    · cases eL
/-- any, all: the turns for both -/
theorem ql_turns {K : PySem.W.Frag} {F : Fns} {elt : E} {t : Tg} {cs : Es} {own : List Nat} {σ : L2.St} {H1 Hc : Hp} {Q : VK} {all : Bool} {ι1 : List Addr} {S1 : Store} {env : Env} {w : Walk} {J : L2.It} {Z : GX.Wish}
    (hsl : ∀ i ∈ slotsT t, i ∈ own) (stT : Step ι1 H1 ι1 Hc) (srT : SR K ι1 S1 Hc) (re1 : REnv K ι1 H1 env σ) (wk : Walks K J w ι1 H1)
    (g : Got K ι1 H1 (qlL all w t env own (fun e s => evTs F cs e s) (fun e s => evE F elt e s) w.items S1) (Rep K) Q)
    (hS : ∀ ys H, Q (.bl all) H → Z.St ys H) (hI : ∀ ys b H nx, (if b = all then nx else Q (.bl b) H) → Z.It ys (.bl b) H nx) :
    ∃ N0 W, (∃ m, W 0 [] m Hc) ∧ GX.Turns J Z N0 (TgS K t) (RdB K fun e s => evTs F cs e s) (RdE K F elt) own σ W := by
  let Wi : Nat → List V → Hp → Prop := fun i ys Hc => ∃ ιc Sc, Step ι1 H1 ιc Hc ∧ SR K ιc Sc Hc ∧ ys.length ≤ i ∧ i ≤ w.items.length ∧
    Got K ιc Hc (qlL all w t env own (fun e s => evTs F cs e s) (fun e s => evE F elt e s) (w.items.drop i) Sc) (Rep K) Q
  refine ⟨w.items.length, fun i ys m Hc => m = w.items.length - i ∧ Wi i ys Hc, ⟨w.items.length, by simp, ι1, S1, stT, srT, Nat.le_refl _, Nat.zero_le _, by simpa using got_step stT g⟩, ?_⟩
  rintro i ys m Hc ⟨rfl, ιc, Sc, stc, src, hy0, hi, gL⟩
  by_cases hlt : i < w.items.length
  · refine .inr ?_
    rw [List.drop_eq_getElem_cons hlt] at gL
    unfold qlL at gL
    split at gL
    · rename_i here
      split at gL
      · rename_i env1 e1
        refine ⟨wk.go i ιc Hc Sc stc.toMono src here hlt, Wi (i + 1), fun ys' H' hw => ⟨w.items.length - (i + 1), by omega, rfl, hw⟩, fun x Hy hy => ?_⟩
        obtain ⟨rd, sty, sry⟩ := wk.yld i ιc Hc Sc x Hy w.items[i] stc.toMono src here (List.getElem?_eq_getElem hlt) hy
        have stcy := stc.trans sty
        refine ⟨ιc, Sc, wipeE env own, w.items[i], env1, (re1.step stcy).wiped own, sry, rd, e1, fun σ1 re2 wok => ⟨?_, ?_⟩⟩
        · rw [wok own hsl]
          exact wipe_idem σ own
        · refine got_B (f := fun e s => evTs F cs e s) re2 sry (got_step sty gL) fun ι3 H3 b S3 st3 re3 sr3 g3 => ?_
          cases b with
          | true =>
            rw [if_pos rfl] at g3 ⊢
            refine got_E re3 sr3 g3 fun ι4 H4 y yv S4 st4 re4 sr4 ry g4 => ⟨by omega, ?_⟩
            split at g4
            · rename_i r
              obtain rfl := rep_bl ry
              refine hI _ _ _ _ ?_
              split at g4
              · rename_i hr
                rw [if_pos hr]
                exact ⟨ι4, S4, (stcy.trans st3).trans st4, sr4, by rw [List.length_append]; simp; omega, hlt, g4⟩
              · rename_i hr
                rw [if_neg hr]
                exact got_val g4 sr4 (to_bl _)
            · exact (got_bad g4).elim
          | false =>
            rw [if_neg Bool.false_ne_true] at g3 ⊢
            exact ⟨ι3, S3, stcy.trans st3, sr3, by omega, hlt, g3⟩
      · exact (got_bad gL).elim
    · exact (got_bad gL).elim
  · have hi2 : i = w.items.length := by omega
    subst hi2
    rw [List.drop_length] at gL
    unfold qlL at gL
    split at gL
    · rename_i here
      exact .inl ⟨wk.stop _ ιc Hc _ stc.toMono src here (Nat.le_refl _), hS _ _ (got_val gL src (to_bl _))⟩
    · exact (got_bad gL).elim
theorem any_read {K : PySem.W.Frag} {F : Fns} {elt : E} {t : Tg} {it : It} {cs : Es} {own : List Nat} {σ : L2.St} {H : Hp} {Q : VK} {cA P : Addr} (hP : (cA, P) ∈ Tabs.cs) (hsl : ∀ i ∈ slotsT t, i ∈ own)
    (h : RdE K F (.qual false elt t it cs own) σ H Q) : GX.tAnyG P (RdI K F it) (TgS K t) (RdB K fun e s => evTs F cs e s) (RdE K F elt) own σ H Q := by
  obtain ⟨ι, env, S, re, sr, g⟩ := h
  unfold evE at g
  obtain ⟨w, S1, ew, g1⟩ := got_bnd g
  refine ⟨ι, env, S, w, S1, re, sr, ew, fun ι1 H1 J st1 sr1 wk => ⟨sr1.tb _ hP, fun Hc hT => ?_⟩⟩
  refine ql_turns hsl (step_tab (ι := ι1) (sr1.tb _ hP) hT) (sr1.tabbed (sr1.tb _ hP) hT) (re.step st1) wk (got_step st1 g1) (fun ys H q => q) fun ys b H nx q => ⟨b, rfl, ?_⟩
  cases b with
  | true => exact q
  | false => exact q
theorem all_read {K : PySem.W.Frag} {F : Fns} {elt : E} {t : Tg} {it : It} {cs : Es} {own : List Nat} {σ : L2.St} {H : Hp} {Q : VK} {cA P : Addr} (hP : (cA, P) ∈ Tabs.cs) (hsl : ∀ i ∈ slotsT t, i ∈ own)
    (h : RdE K F (.qual true elt t it cs own) σ H Q) : GX.tAllG P (RdI K F it) (TgS K t) (RdB K fun e s => evTs F cs e s) (RdE K F elt) own σ H Q := by
  obtain ⟨ι, env, S, re, sr, g⟩ := h
  unfold evE at g
  obtain ⟨w, S1, ew, g1⟩ := got_bnd g
  refine ⟨ι, env, S, w, S1, re, sr, ew, fun ι1 H1 J st1 sr1 wk => ⟨sr1.tb _ hP, fun Hc hT => ?_⟩⟩
  refine ql_turns hsl (step_tab (ι := ι1) (sr1.tb _ hP) hT) (sr1.tabbed (sr1.tb _ hP) hT) (re.step st1) wk (got_step st1 g1) (fun ys H q => q) fun ys b H nx q => ⟨b, rfl, ?_⟩
  cases b with
  | true => exact q
  | false => exact q
theorem sum_read {K : PySem.W.Frag} {F : Fns} {elt : E} {t : Tg} {it : It} {cs : Es} {own : List Nat} {σ : L2.St} {H : Hp} {Q : VK} {cA P : Addr} (hP : (cA, P) ∈ Tabs.cs) (hsl : ∀ i ∈ slotsT t, i ∈ own)
    (h : RdE K F (.sumG elt t it cs own) σ H Q) : GX.tSumG P (RdI K F it) (TgS K t) (RdB K fun e s => evTs F cs e s) (RdE K F elt) own σ H Q := by
  obtain ⟨ι, env, S, re, sr, g⟩ := h
  unfold evE at g
  obtain ⟨w, S1, ew, g1⟩ := got_bnd g
  refine ⟨ι, env, S, w, S1, re, sr, ew, fun ι1 H1 J st1 sr1 wk => ⟨sr1.tb _ hP, fun Hc hT => ?_⟩⟩
  have re1 := re.step st1
  have stT := step_tab (ι := ι1) (sr1.tb _ hP) hT
  have srT := sr1.tabbed (sr1.tb _ hP) hT
  let Wi : Nat → List V → Hp → Prop := fun i ys Hc => ∃ ιc Sc, Step ι1 H1 ιc Hc ∧ SR K ιc Sc Hc ∧ ys.length ≤ i ∧ i ≤ w.items.length ∧
    Got K ιc Hc (smL w t env own (fun e s => evTs F cs e s) (fun e s => evE F elt e s) (w.items.drop i) (GX.sumV ys) Sc) (Rep K) Q
  refine ⟨w.items.length, fun i ys m Hc => m = w.items.length - i ∧ Wi i ys Hc, ⟨w.items.length, by simp, ι1, S1, stT, srT, Nat.le_refl _, Nat.zero_le _, by simpa [GX.sumV] using got_step (st1.trans stT) g1⟩, ?_⟩
  rintro i ys m Hc ⟨rfl, ιc, Sc, stc, src, hy0, hi, gL⟩
  by_cases hlt : i < w.items.length
  · refine .inr ?_
    rw [List.drop_eq_getElem_cons hlt] at gL
    unfold smL at gL
    split at gL
    · rename_i here
      split at gL
      · rename_i env1 e1
        refine ⟨wk.go i ιc Hc Sc stc.toMono src here hlt, Wi (i + 1), fun ys' H' hw => ⟨w.items.length - (i + 1), by omega, rfl, hw⟩, fun x Hy hy => ?_⟩
        obtain ⟨rd, sty, sry⟩ := wk.yld i ιc Hc Sc x Hy w.items[i] stc.toMono src here (List.getElem?_eq_getElem hlt) hy
        have stcy := stc.trans sty
        refine ⟨ιc, Sc, wipeE env own, w.items[i], env1, (re1.step stcy).wiped own, sry, rd, e1, fun σ1 re2 wok => ⟨?_, ?_⟩⟩
        · rw [wok own hsl]
          exact wipe_idem σ own
        · refine got_B (f := fun e s => evTs F cs e s) re2 sry (got_step sty gL) fun ι3 H3 b S3 st3 re3 sr3 g3 => ?_
          cases b with
          | true =>
            rw [if_pos rfl] at g3 ⊢
            refine got_E re3 sr3 g3 fun ι4 H4 y yv S4 st4 re4 sr4 ry g4 => ⟨by omega, ?_⟩
            split at g4
            · rename_i r
              obtain rfl := rep_int ry
              split at g4
              · rename_i hr
                refine ⟨r, rfl, hr.1, hr.2, ι4, S4, (stcy.trans st3).trans st4, sr4, by rw [List.length_append]; simp; omega, hlt, ?_⟩
                rw [GX.sumV_app]
                exact g4
              · exact (got_bad g4).elim
            · exact (got_bad g4).elim
          | false =>
            rw [if_neg Bool.false_ne_true] at g3 ⊢
            exact ⟨ι3, S3, stcy.trans st3, sr3, by omega, hlt, g3⟩
      · exact (got_bad gL).elim
    · exact (got_bad gL).elim
  · have hi2 : i = w.items.length := by omega
    subst hi2
    rw [List.drop_length] at gL
    unfold smL at gL
    split at gL
    · rename_i here
      exact .inl ⟨wk.stop _ ιc Hc _ stc.toMono src here (Nat.le_refl _), got_val gL src (to_int _)⟩
    · exact (got_bad gL).elim

/-! ### list comprehensions with two clauses -/
theorem Mono.trans {ι ι' ι'' : List Addr} {H H' H'' : Hp} (a : Mono ι H ι' H') (b : Mono ι' H' ι'' H'') : Mono ι H ι'' H'' where
  pre := by
    obtain ⟨t, e⟩ := a.pre
    obtain ⟨u, f⟩ := b.pre
    exact ⟨t ++ u, by rw [f, e, List.append_assoc]⟩
  tup := fun c xs h => b.tup c xs (a.tup c xs h)
  frz := fun c o u h => b.frz c o u (a.frz c o u h)
theorem REnv.mono {K : PySem.W.Frag} {ι ι' : List Addr} {H H' : Hp} (s : Mono ι H ι' H') {env : Env} {σ : L2.St} (h : REnv K ι H env σ) : REnv K ι' H' env σ :=
  ⟨h.1, fun i d e => let ⟨v, e1, r⟩ := h.2 i d e; ⟨v, e1, Rep.mono s d v r⟩⟩
structure Acc (K : PySem.W.Frag) (ι1 : List Addr) (H1 : Hp) (Dd : Addr) (ιc : List Addr) (Hc : Hp) (Sc : Store) (acc : List D) : Prop where
  st : Step ι1 H1 ιc Hc
  nD : Dd ∉ ιc
  sr : SR K ιc Sc Hc
  lst : ∃ accV, Hc Dd = some (.lst accV) ∧ Reps K ιc Hc acc accV
theorem Acc.step {K : PySem.W.Frag} {ι1 : List Addr} {H1 : Hp} {Dd : Addr} {ιc : List Addr} {Hc : Hp} {Sc : Store} {acc : List D} (a : Acc K ι1 H1 Dd ιc Hc Sc acc) {ι' : List Addr} {H' : Hp} {S' : Store} (st : Step ιc Hc ι' H') (sr : SR K ι' S' H') : Acc K ι1 H1 Dd ι' H' S' acc := by
  obtain ⟨v, e, r⟩ := a.lst
  refine ⟨a.st.trans st, fun z => ?_, sr, v, st.keep Dd _ e a.nD (fun ps z => by cases z), Reps.step st acc v r⟩
  have := st.new Dd z a.nD
  rw [e] at this
  cases this
theorem Acc.push {K : PySem.W.Frag} {ι1 : List Addr} {H1 : Hp} {Dd : Addr} {ιc : List Addr} {Hc : Hp} {Sc : Store} {acc : List D} (a : Acc K ι1 H1 Dd ιc Hc Sc acc) (hD : H1 Dd = none) {y : D} {yv : V} (ry : Rep K ιc Hc y yv) :
    ∃ accV, Hc Dd = some (.lst accV) ∧ accV.length = acc.length ∧ Acc K ι1 H1 Dd ιc (upd Hc Dd (.lst (accV ++ [yv]))) Sc (acc ++ [y]) := by
  obtain ⟨v, e, r⟩ := a.lst
  exact ⟨v, e, r.len.symm, step_out a.st hD, a.nD, a.sr.out a.nD e, _, upd_same, Reps.mono (mono_out e) _ _ (r.append (.cons ry .nil))⟩
theorem lc2_read {K : PySem.W.Frag} {F : Fns} {elt : E} {t t1 : Tg} {it it1 : It} {cs cs1 : Es} {own own1 : List Nat} {σ : L2.St} {H : Hp} {Q : VK} (hsl : ∀ i ∈ slotsT t, i ∈ own) (hsl1 : ∀ i ∈ slotsT t1, i ∈ own1)
    (h : RdE K F (.lc2 elt t it cs own t1 it1 cs1 own1) σ H Q) : tLc2 (RdI K F it) (TgS K t) (RdB K fun e s => evTs F cs e s) (RdI K F it1) (TgS K t1) (RdB K fun e s => evTs F cs1 e s) (RdE K F elt) own own1 σ H Q := by
  obtain ⟨ι, env, S, re, sr, g⟩ := h
  unfold evE at g
  obtain ⟨w, S1, ew, g1⟩ := got_bnd g
  obtain ⟨ds, S2, el, g2⟩ := got_bnd g1
  refine ⟨ι, env, S, w, S1, re, sr, ew, fun ι1 H1 J st1 sr1 wk Dd hD => ?_⟩
  have re1 := re.step st1
  have g3 := got_step st1 g2
  let inn : Env → List D → Store → Res (List D) := fun e acc s => (evIt F it1 e s).bnd fun w1 s1 => lcL w1 t1 e own1 (fun e s => evTs F cs1 e s) (fun e s => evE F elt e s) w1.items acc s1
  let Wi : Nat → Hp → Prop := fun i Hc => ∃ ιc Sc acc, Acc K ι1 H1 Dd ιc Hc Sc acc ∧ i ≤ w.items.length ∧ lc2L w t env own (fun e s => evTs F cs e s) inn (w.items.drop i) acc Sc = .ok ds S2
  refine ⟨fun i m Hc => m = w.items.length - i ∧ Wi i Hc, ⟨w.items.length, by simp, ι1, S1, [], ⟨step_laid hD, sr1.notMem hD, sr1.laid hD, [], upd_same, Reps.nil⟩, Nat.zero_le _, by simpa using el⟩, ?_⟩
  rintro i m Hc ⟨rfl, ιc, Sc, acc, ac, hi, eL⟩
  by_cases hlt : i < w.items.length
  · refine .inr ?_
    rw [List.drop_eq_getElem_cons hlt] at eL
    unfold lc2L at eL
    split at eL
    · rename_i here
      split at eL
      · rename_i env1 e1
        refine ⟨wk.go i ιc Hc Sc ac.st.toMono ac.sr here hlt, Wi (i + 1), fun H' hw => ⟨w.items.length - (i + 1), by omega, rfl, hw⟩, fun x Hy hy => ?_⟩
        obtain ⟨rd, sty, sry⟩ := wk.yld i ιc Hc Sc x Hy w.items[i] ac.st.toMono ac.sr here (List.getElem?_eq_getElem hlt) hy
        have acy := ac.step sty sry
        refine ⟨ιc, Sc, wipeE env own, w.items[i], env1, (re1.step acy.st).wiped own, sry, rd, e1, fun σ1 re2 wok => ⟨?_, ?_⟩⟩
        · rw [wok own hsl]
          exact wipe_idem σ own
        · obtain ⟨b, S3, eb, el2⟩ := bnd_eq_ok eL
          refine ⟨ιc, env1, Sc, re2, sry, b, S3, eb, fun ι3 H3 b' st3 sr3 hb => ?_⟩
          subst hb
          have ac3 := acy.step st3 sr3
          have re3 := re2.step st3
          cases b with
          | false =>
            rw [if_neg Bool.false_ne_true] at el2 ⊢
            exact ⟨ι3, S3, acc, ac3, hlt, el2⟩
          | true =>
            rw [if_pos rfl] at el2 ⊢
            obtain ⟨acc1, S5, ei, el3⟩ := bnd_eq_ok el2
            obtain ⟨w1, S4, ew1, ei1⟩ := bnd_eq_ok ei
            refine ⟨ι3, env1, S3, w1, S4, re3, sr3, ew1, fun ι4 H4 J1 st4 sr4 wk1 => ?_⟩
            have ac4 := ac3.step st4 sr4
            have re4 := re3.step st4
            let Wj : Nat → Hp → Prop := fun j Hd => ∃ ιd Sd accd, Acc K ι1 H1 Dd ιd Hd Sd accd ∧ Mono ι4 H4 ιd Hd ∧ j ≤ w1.items.length ∧ lcL w1 t1 env1 own1 (fun e s => evTs F cs1 e s) (fun e s => evE F elt e s) (w1.items.drop j) accd Sd = .ok acc1 S5
            refine ⟨fun j k Hd => k = w1.items.length - j ∧ Wj j Hd, ⟨w1.items.length, by simp, ι4, S4, acc, ac4, (Step.refl (ι := ι4) (H := H4)).toMono, Nat.zero_le _, by simpa using ei1⟩, ?_⟩
            rintro j k Hd ⟨rfl, ιd, Sd, accd, ad, ad4, hj, eM⟩
            by_cases hlj : j < w1.items.length
            · refine .inr ?_
              rw [List.drop_eq_getElem_cons hlj] at eM
              unfold lcL at eM
              split at eM
              · rename_i here1
                split at eM
                · rename_i env2 e2
                  refine ⟨wk1.go j ιd Hd Sd ad4 ad.sr here1 hlj, Wj (j + 1), fun H' hw => ⟨w1.items.length - (j + 1), by omega, rfl, hw⟩, fun x Hz hz => ?_⟩
                  obtain ⟨rd1, stz, srz⟩ := wk1.yld j ιd Hd Sd x Hz w1.items[j] ad4 ad.sr here1 (List.getElem?_eq_getElem hlj) hz
                  have adz := ad.step stz srz
                  have adz4 := ad4.trans stz.toMono
                  refine ⟨ιd, Sd, wipeE env1 own1, w1.items[j], env2, (re4.mono adz4).wiped own1, srz, rd1, e2, fun σ3 re5 wok1 => ⟨?_, ?_⟩⟩
                  · rw [wok1 own1 hsl1]
                    exact wipe_idem σ1 own1
                  · obtain ⟨b, S6, eb, em2⟩ := bnd_eq_ok eM
                    refine ⟨ιd, env2, Sd, re5, srz, b, S6, eb, fun ι6 H6 b' st6 sr6 hb => ?_⟩
                    subst hb
                    have ad6 := adz.step st6 sr6
                    have ad64 := adz4.trans st6.toMono
                    cases b with
                    | false =>
                      rw [if_neg Bool.false_ne_true] at em2 ⊢
                      exact ⟨ι6, S6, accd, ad6, ad64, hlj, em2⟩
                    | true =>
                      rw [if_pos rfl] at em2 ⊢
                      obtain ⟨y, S7, ey, em3⟩ := bnd_eq_ok em2
                      refine ⟨ι6, env2, S6, re5.step st6, sr6, y, S7, ey, fun ι7 H7 yv st7 sr7 ry => ?_⟩
                      split at em3
                      · rename_i hl
                        obtain ⟨accV, q1, q2, q3⟩ := (ad6.step st7 sr7).push hD ry
                        refine ⟨accV, q1, by rw [← line_eq, q2]; exact hl, ι7, S7, accd ++ [y], q3, ?_, hlj, em3⟩
                        exact (ad64.trans st7.toMono).trans (mono_out q1)
                      · cases em3
                · cases eM
              · cases eM
            · have hj2 : j = w1.items.length := by omega
              subst hj2
              rw [List.drop_length] at eM
              unfold lcL at eM
              split at eM
              · rename_i here1
                cases eM
                refine .inl ⟨wk1.stop _ ιd Hd _ ad4 ad.sr here1 (Nat.le_refl _), ?_⟩
                exact ⟨ιd, _, _, ad, hlt, el3⟩
              · cases eM
      · cases eL
    · cases eL
  · have hi2 : i = w.items.length := by omega
    subst hi2
    rw [List.drop_length] at eL
    unfold lc2L at eL
    split at eL
    · rename_i here
      cases eL
      refine .inl ⟨wk.stop _ ιc Hc _ ac.st.toMono ac.sr here (Nat.le_refl _), ?_⟩
      obtain ⟨accV, eD, ra⟩ := ac.lst
      unfold new at g3
      refine got_ok g3 (ιc ++ [Dd]) Hc (.ref Dd) (step_add ac.st hD) (ac.sr.add ac.nD eD ra) ?_
      unfold Rep
      exact ⟨Dd, rfl, new_get ac.sr Dd⟩
    · cases eL
end
end SX
namespace SX
open PySem PySem.Spec PyProof.Rows L2
noncomputable section
open Classical
theorem ev_and2 {F : Fns} {e e' : E} {es : Es} {env : Env} {S : Store} : evAnd F (.cons e (.cons e' es)) env S = (evE F e env S).bnd fun d S1 => match truD d S1 with
    | some true => evAnd F (.cons e' es) env S1
    | some false => .ok d S1
    | none => .bad := by
  rw [evAnd]
  all_goals first
    | rfl
    | (intro h; cases h)
theorem ev_or2 {F : Fns} {e e' : E} {es : Es} {env : Env} {S : Store} : evOr F (.cons e (.cons e' es)) env S = (evE F e env S).bnd fun d S1 => match truD d S1 with
    | some false => evOr F (.cons e' es) env S1
    | some true => .ok d S1
    | none => .bad := by
  rw [evOr]
  all_goals first
    | rfl
    | (intro h; cases h)
theorem ev_and1 {F : Fns} {e : E} {env : Env} {S : Store} : evAnd F (.cons e .nil) env S = evE F e env S := by rw [evAnd]
theorem ev_or1 {F : Fns} {e : E} {env : Env} {S : Store} : evOr F (.cons e .nil) env S = evE F e env S := by rw [evOr]
variable [Tabs]

theorem got_call {K : PySem.W.Frag} {ι : List Addr} {H : Hp} {S : Store} {ds : List D} {vs : List V} {φ : List D → Store → Res D} {Q : VK} {n : Nat} (sr : SR K ι S H) (r : Reps K ι H ds vs) (hl : ∀ ds S d S', φ ds S = .ok d S' → ds.length = n)
    (g : Got K ι H (φ ds S) (Rep K) Q) : GSp K n φ vs H Q E0 := by
  obtain ⟨d, S', e, q⟩ := id g
  exact ⟨by rw [← r.len]; exact hl _ _ _ _ e, ι, S, ds, sr, r, g⟩
/-- a test by its value's truth -/
theorem tru_read {K : PySem.W.Frag} {F : Fns} {e : E} {σ : L2.St} {H : Hp} {Q : Bool → Hp → Prop} (h : RdB K (fun env S => truR (evE F e env S)) σ H Q) : RdE K F e σ H fun x H' => ∃ k, TruV K x H' k ∧ Q k H' := by
  obtain ⟨ι, env, S, re, sr, g⟩ := h
  unfold truR at g
  refine got_E re sr g fun ι1 H1 d v S1 st re1 sr1 r g1 => ?_
  split at g1
  · rename_i b e
    exact ⟨b, tru_of sr1 r e, got_ok g1 ι1 H1 b Step.refl sr1 rfl⟩
  · exact (got_bad g1).elim
theorem gl_in {c : Cn} {F : Fns} {X : Cx} {x : Str} (f : Fits c F X) (h : glB c.sc x = true) : Gl X x ∧ (x == ("__debug__" : Str)) = false := by
  obtain ⟨g1, g2⟩ := gl_of h
  refine ⟨?_, g2⟩
  show X.env.scope.names.lookup x = _
  rw [f.sc]
  exact g1

theorem boOp_inj (op : BO) : True := trivial
theorem evEs_len {F : Fns} : ∀ {es : Es} {env : Env} {S S' : Store} {ds : List D}, evEs F es env S = .ok ds S' → ds.length = es.len
  | .nil, _, _, _, _, e => by unfold evEs at e; cases e; rfl
  | .cons x es, env, S, S', ds, e => by
    unfold evEs at e
    obtain ⟨d, S1, _, e2⟩ := bnd_eq_ok e
    obtain ⟨r, S2, e3, e4⟩ := bnd_eq_ok e2
    cases e4
    rw [List.length_cons, evEs_len e3]
    rfl
theorem ckEs_len {c : Cn} : ∀ {es : Es} {xs : List Expr}, ckEs c es xs = true → es.len = xs.length
  | .nil, [], _ => rfl
  | .nil, _ :: _, h => by simp [ckEs] at h
  | .cons _ _, [], h => by simp [ckEs] at h
  | .cons e es, x :: xs, h => by
    unfold ckEs at h
    rw [Bool.and_eq_true] at h
    rw [List.length_cons, ← ckEs_len h.2]
    rfl
theorem ckKs_len {c : Cn} : ∀ {es : Es} {xs : List Keyword}, ckKs c es xs = true → es.len = xs.length
  | .nil, [], _ => rfl
  | .nil, _ :: _, h => by simp [ckKs] at h
  | .cons _ _, [], h => by simp [ckKs] at h
  | .cons e es, ⟨none, x, p⟩ :: xs, h => by simp [ckKs] at h
  | .cons e es, ⟨some n, x, p⟩ :: xs, h => by
    unfold ckKs at h
    rw [Bool.and_eq_true] at h
    rw [List.length_cons, ← ckKs_len h.2]
    rfl
theorem kw_len : ∀ {xs : List Keyword} {ns : List Str}, kwNames xs = some ns → xs.length = ns.length
  | [], ns, h => by unfold kwNames at h; cases h; rfl
  | ⟨none, x, p⟩ :: xs, ns, h => by unfold kwNames at h; cases h
  | ⟨some n, x, p⟩ :: xs, ns, h => by
    unfold kwNames at h
    obtain ⟨ms, e, rfl⟩ := Option.map_eq_some_iff.mp h
    rw [List.length_cons, List.length_cons, kw_len e]
theorem bnd_assoc {α β γ : Type} (r : Res α) (k : α → Store → Res β) (m : β → Store → Res γ) : (r.bnd k).bnd m = r.bnd fun a S => (k a S).bnd m := by
  cases r <;> rfl
theorem got_not {K : PySem.W.Frag} {F : Fns} {a : E} {env : Env} {S : Store} {ι : List Addr} {H : Hp} {Q : Bool → Hp → Prop} (g : Got K ι H (truR ((truR (evE F a env S)).bnd fun b S1 => .ok (.bl (!b)) S1)) (fun _ _ a b => a = b) Q) :
    ∃ b S1, truR (evE F a env S) = .ok b S1 ∧ Got K ι H (.ok (!b) S1) (fun _ _ a b => a = b) Q := by
  unfold truR at g
  rw [bnd_assoc] at g
  obtain ⟨b, S1, e, g1⟩ := got_bnd g
  exact ⟨b, S1, e, g1⟩
/-- what is no test of its own form -/
def plainT : E → Bool
  | .not _ => false
  | .and _ => false
  | .or _ => false
  | .cmp _ _ _ => false
  | .chain _ _ _ _ _ => false
  | .ite _ _ _ => false
  | _ => true
theorem plain_of {c : Cn} {e : E} {ex : Expr} {env : PySem.Env} (h : ckE c e ex = true) (p : plainT e = true) : ∀ whole, isTrue ex env whole = (do let v ← whole; standAt ex.pos; holding [v] (truthy v)) := by
  intro whole
  cases ex with
  | UnaryOp op x q => cases op <;> first | rfl | (cases e <;> first | (simp [ckE] at h; done) | (exact Bool.noConfusion (show false = true from p)))
  | BoolOp op x q => cases e <;> first | (simp [ckE] at h; done) | (exact Bool.noConfusion (show false = true from p))
  | Compare l os rs q => cases e <;> first | (simp [ckE] at h; done) | (exact Bool.noConfusion (show false = true from p))
  | IfExp t a b q => cases e <;> first | (simp [ckE] at h; done) | (exact Bool.noConfusion (show false = true from p))
  | _ => rfl
/-- a op b op' c -/
theorem chain_read {K : PySem.W.Frag} {F : Fns} {op op' : CO} {a b c : E} {σ : L2.St} {H : Hp} {Q : VK} (h : RdE K F (.chain op op' a b c) σ H Q) :
    tChain (OpS K fun a b S => ofB (cmpD op a b S) S) (OpS K fun a b S => ofB (cmpD op' a b S) S) (RdE K F a) (RdE K F b) (RdE K F c) σ H Q := by
  obtain ⟨ι, env, S, re, sr, g⟩ := h
  unfold evE at g
  refine got_E re sr g fun ι1 H1 d v S1 st re1 sr1 r g1 => ?_
  refine got_E re1 sr1 g1 fun ι2 H2 d2 v2 S2 st2 re2 sr2 r2 g2 => ?_
  refine ⟨ι2, S2, d, d2, sr2, Rep.step st2 _ _ r, r2, ?_⟩
  obtain ⟨z, S3, e3, g3⟩ := got_bnd g2
  refine ⟨z, S3, e3, fun ι3 H3 v3 st3 sr3 r3 => ?_⟩
  unfold ofB at e3
  split at e3
  · rename_i k ek
    cases e3
    refine ⟨k, rep_bl r3, ?_⟩
    have g4 := got_step st3 g3
    cases k with
    | false =>
      rw [if_neg Bool.false_ne_true]
      exact got_val g4 sr3 (to_bl _)
    | true =>
      rw [if_pos rfl]
      refine got_E (re2.step st3) sr3 g4 fun ι5 H5 d5 v5 S5 st5 re5 sr5 r5 g5 => ?_
      exact ⟨ι5, S5, d2, d5, sr5, Rep.step (st3.trans st5) _ _ r2, r5, g5⟩
  · cases e3
theorem lc_ok {F : Fns} (t : Tg) (own : List Nat) (c : Cn) (X : Cx) (tg : Expr) (scope : Scope) (f : Fits c F X)
    (h2 : blkC c.N c.sc scope (ownP c.N own) = true) (h3 : (slotsT t).all (fun i => own.contains i) = true) (h4 : own.all (fun i => locB scope (c.N.getD i "")) = true)
    (h5 : ckT { c with sc := relS scope c.sc } t tg = true) :
    BlkOk X.N X.env.scope scope (ownP c.N own) ∧
    (∀ (s : Shared) (H : Hp) (C : Addr) (cl : List (Str × Addr)) (fp : List Addr), PG (X.blk s H scope (compEnvC scope cl C X.env) fp) tg (TgS X.K t)) ∧ ∀ i ∈ slotsT t, i ∈ own := by
  have hsl : ∀ i ∈ slotsT t, i ∈ own := fun i hi => by
    have := List.all_eq_true.mp h3 i hi
    simpa using this
  refine ⟨?_, fun s H C cl fp => ?_, hsl⟩
  · rw [f.N, f.sc]
    exact blkOk_by h2
  · have f' := f.blk s H scope C cl fp
    refine pg_T f'.calm f'.N f'.nd f'.sc t tg h5 fun i hi x hx => ?_
    have hl := loc_of (List.all_eq_true.mp h4 i (hsl i hi))
    have ex : c.N.getD i "" = x := by
      rw [List.getD_eq_getElem?_getD, show c.N[i]? = some x from hx]
      rfl
    rw [ex] at hl
    rcases hl with hl | hl
    · right
      rw [f'.sc]
      exact lookup_relS_keep (by decide) hl
    · left
      show (scope.names.lookup x == some .cell) = true
      rw [hl]
      rfl
set_option maxHeartbeats 8000000 in
mutual
theorem sn_E (F : Fns) : ∀ (e : E) (c : Cn) (X : Cx) (ex : Expr), Fits c F X → ckE c e ex = true → PE X ex (RdE X.K F e)
  | .var i, c, X, ex, f, h => by
    unfold ckE at h
    split at h
    · rename_i x p
      simp only [Bool.and_eq_true, decide_eq_true_eq] at h
      refine PE.imp (pe_var (i := i) (by rw [f.N]; exact h.1.1.1) (by rw [f.sc]; exact vis_of h.1.1.2) (by simpa using h.1.2) (by simpa using h.2)) fun σ H Q q => ?_
      obtain ⟨ι, env, S, re, sr, g⟩ := q
      unfold evE at g
      split at g
      · rename_i d ed
        obtain ⟨v, e1, r⟩ := re.2 i d ed
        exact ⟨v, e1, got_val g sr r⟩
      · exact (got_bad g).elim
    · cases h
  | .cint i, c, X, ex, f, h => by
    unfold ckE at h
    split at h
    · obtain rfl := of_decide_eq_true h
      refine PE.imp pe_int fun σ H Q q => ?_
      obtain ⟨ι, env, S, re, sr, g⟩ := q
      unfold evE at g
      exact got_val g sr (to_int _)
    · cases h
  | .cbl i, c, X, ex, f, h => by
    unfold ckE at h
    split at h
    · obtain rfl := of_decide_eq_true h
      refine PE.imp pe_bl fun σ H Q q => ?_
      obtain ⟨ι, env, S, re, sr, g⟩ := q
      unfold evE at g
      exact got_val g sr (to_bl _)
    · cases h
  | .cnon, c, X, ex, f, h => by
    unfold ckE at h
    split at h
    · refine PE.imp pe_non fun σ H Q q => ?_
      obtain ⟨ι, env, S, re, sr, g⟩ := q
      unfold evE at g
      exact got_val g sr to_non
    · cases h
  | .cstr i, c, X, ex, f, h => by
    unfold ckE at h
    split at h
    · obtain rfl := of_decide_eq_true h
      refine PE.imp pe_str fun σ H Q q => ?_
      obtain ⟨ι, env, S, re, sr, g⟩ := q
      unfold evE at g
      exact got_val g sr (to_str _)
    · cases h
  | .tup es, c, X, ex, f, h => by
    unfold ckE at h
    split at h
    · refine PE.imp (pe_tup (sn_Es F es c X _ f h)) fun σ H Q q => ?_
      obtain ⟨ι, env, S, re, sr, g⟩ := q
      unfold evE at g
      refine got_Es re sr g fun ι1 H1 ds vs S1 st re1 sr1 r g1 => ?_
      rcases got_ite g1 with ⟨hl, g1⟩ | ⟨_, g1⟩
      · exact ⟨by rw [← line_eq, ← r.len]; exact hl, got_tup g1 sr1 r⟩
      · exact (got_bad g1).elim
    · cases h
  | .lst es, c, X, ex, f, h => by
    unfold ckE at h
    split at h
    · refine PE.imp (pe_lst (sn_Es F es c X _ f h)) fun σ H Q q => ?_
      obtain ⟨ι, env, S, re, sr, g⟩ := q
      unfold evE at g
      refine got_Es re sr g fun ι1 H1 ds vs S1 st re1 sr1 r g1 => ?_
      rcases got_ite g1 with ⟨hl, g1⟩ | ⟨_, g1⟩
      · exact ⟨by rw [← line_eq, ← r.len]; exact hl, got_new g1 sr1 r⟩
      · exact (got_bad g1).elim
    · cases h
  | .bin op a b, c, X, ex, f, h => by
    unfold ckE at h
    split at h
    · simp only [Bool.and_eq_true, decide_eq_true_eq] at h
      obtain ⟨⟨rfl, h1⟩, h2⟩ := h
      refine PE.imp (pe_op (op_bin op) (sn_E F a c X _ f h1) (sn_E F b c X _ f h2)) fun σ H Q q => ?_
      obtain ⟨ι, env, S, re, sr, g⟩ := q
      unfold evE at g
      refine got_E re sr g fun ι1 H1 d v S1 st re1 sr1 r g1 => ?_
      refine got_E re1 sr1 g1 fun ι2 H2 d2 v2 S2 st2 re2 sr2 r2 g2 => ?_
      exact ⟨ι2, S2, d, d2, sr2, Rep.step st2 _ _ r, r2, g2⟩
    · cases h
  | .neg a, c, X, ex, f, h => by
    unfold ckE at h
    split at h
    · refine PE.imp (pe_un un_neg (sn_E F a c X _ f h)) fun σ H Q q => ?_
      obtain ⟨ι, env, S, re, sr, g⟩ := q
      unfold evE at g
      refine got_E re sr g fun ι1 H1 d v S1 st re1 sr1 r g1 => ?_
      split at g1
      · rename_i i
        exact ⟨i, rep_int r, got_val g1 sr1 (to_int _)⟩
      · exact (got_bad g1).elim
    · cases h
  | .not a, c, X, ex, f, h => by
    unfold ckE at h
    split at h
    · refine PE.imp (pe_notT (sn_E F a c X _ f h)) fun σ H Q q => ?_
      obtain ⟨ι, env, S, re, sr, g⟩ := q
      unfold evE at g
      unfold truR at g
      obtain ⟨b, S1, e1, g1⟩ := got_bnd g
      obtain ⟨d, S2, e2, e3⟩ := bnd_eq_ok e1
      refine ⟨ι, env, S, re, sr, d, S2, e2, fun ι1 H1 v st sr1 r => ?_⟩
      split at e3
      · rename_i b' eb
        cases e3
        exact ⟨b, tru_of sr1 r eb, got_val (got_step st g1) sr1 (to_bl _)⟩
      · cases e3
    · cases h
  | .and es, c, X, ex, f, h => by
    unfold ckE at h
    split at h
    · refine PE.imp (sn_and F es c X _ _ f h) fun σ H Q q => ?_
      obtain ⟨ι, env, S, re, sr, g⟩ := q
      unfold evE at g
      exact ⟨ι, env, S, re, sr, g⟩
    · cases h
  | .or es, c, X, ex, f, h => by
    unfold ckE at h
    split at h
    · refine PE.imp (sn_or F es c X _ _ f h) fun σ H Q q => ?_
      obtain ⟨ι, env, S, re, sr, g⟩ := q
      unfold evE at g
      exact ⟨ι, env, S, re, sr, g⟩
    · cases h
  | .cmp op a b, c, X, ex, f, h => by
    unfold ckE at h
    split at h
    · simp only [Bool.and_eq_true, decide_eq_true_eq] at h
      obtain ⟨⟨rfl, h1⟩, h2⟩ := h
      refine PE.imp (pe_cmpR (op_cmp f.un op) (sn_E F a c X _ f h1) (sn_E F b c X _ f h2) (ck_marks h2 _)) fun σ H Q q => ?_
      obtain ⟨ι, env, S, re, sr, g⟩ := q
      unfold evE at g
      refine got_E re sr g fun ι1 H1 d v S1 st re1 sr1 r g1 => ?_
      refine got_E re1 sr1 g1 fun ι2 H2 d2 v2 S2 st2 re2 sr2 r2 g2 => ?_
      exact ⟨ι2, S2, d, d2, sr2, Rep.step st2 _ _ r, r2, g2⟩
    · cases h
  | .ite k a b, c, X, ex, f, h => by
    unfold ckE at h
    split at h
    · simp only [Bool.and_eq_true] at h
      obtain ⟨⟨h0, h1⟩, h2⟩ := h
      refine PE.imp (pe_ifExp (sn_T F k c X _ f h0 (sn_E F k c X _ f h0)) (sn_E F a c X _ f h1) (sn_E F b c X _ f h2)) fun σ H Q q => ?_
      obtain ⟨ι, env, S, re, sr, g⟩ := q
      unfold evE at g
      refine got_B (f := fun env S => truR (evE F k env S)) re sr g fun ι1 H1 d S1 st re1 sr1 g1 => ?_
      cases d with
      | true => exact ⟨ι1, env, S1, re1, sr1, g1⟩
      | false => exact ⟨ι1, env, S1, re1, sr1, g1⟩
    · cases h
  | .idx a b, c, X, ex, f, h => by
    unfold ckE at h
    split at h
    · simp only [Bool.and_eq_true] at h
      refine PE.imp (pe_ix ix_S (sn_E F a c X _ f h.1) (sn_E F b c X _ f h.2) (ck_plainIx h.2)) fun σ H Q q => ?_
      obtain ⟨ι, env, S, re, sr, g⟩ := q
      unfold evE at g
      refine got_E re sr g fun ι1 H1 d v S1 st re1 sr1 r g1 => ?_
      refine got_E re1 sr1 g1 fun ι2 H2 d2 v2 S2 st2 re2 sr2 r2 g2 => ?_
      exact ⟨ι2, S2, d, d2, sr2, Rep.step st2 _ _ r, r2, g2⟩
    · cases h
  | .slc a lo hi, c, X, ex, f, h => by
    unfold ckE at h
    split at h
    · rename_i v l hh p1 p2
      simp only [Bool.and_eq_true] at h
      obtain ⟨⟨h0, h1⟩, h2⟩ := h
      have po : ∀ (o : Option Expr) (e : E), (match o with | none => isAbs e | some x => ckE c e x) = true → (∀ x, o = some x → ckE c e x = true → PE X x (RdE X.K F e)) →
          PO X o (fun σ H Q => ∃ ι env S, REnv X.K ι H env σ ∧ SR X.K ι S H ∧ Got X.K ι H (if isAbs e = true then .ok none S else optI (evE F e env S)) (fun _ _ a b => a = b) Q) := by
        intro o e ho hp
        cases o with
        | none =>
          have e1 : isAbs e = true := ho
          refine ⟨fun pins s σ H Q I q => po_none.run pins s σ H Q I ?_⟩
          obtain ⟨ι, env, S, re, sr, g⟩ := q
          rw [if_pos e1] at g
          exact got_ok g ι H none Step.refl sr rfl
        | some x =>
          have hx : ckE c e x = true := ho
          refine ⟨fun pins s σ H Q I q => (po_some (hp x rfl hx)).run pins s σ H Q I ?_⟩
          obtain ⟨ι, env, S, re, sr, g⟩ := q
          have e1 : ¬ isAbs e = true := by
            cases e <;> first | exact Bool.false_ne_true | (simp [ckE] at hx)
          rw [if_neg e1] at g
          unfold optI at g
          refine got_E re sr g fun ι1 H1 d v S1 st re1 sr1 r g1 => ?_
          split at g1
          · rename_i i
            exact ⟨i, rep_int r, got_ok g1 ι1 H1 _ Step.refl sr1 rfl⟩
          · exact (got_bad g1).elim
      refine PE.imp (pe_slice sl_S (sn_E F a c X _ f h0) (po l lo h1 fun x _ hx => sn_E F lo c X x f hx) (po hh hi h2 fun x _ hx => sn_E F hi c X x f hx)) fun σ H Q q => ?_
      obtain ⟨ι, env, S, re, sr, g⟩ := q
      unfold evE at g
      refine got_E re sr g fun ι1 H1 d v S1 st re1 sr1 r g1 => ?_
      obtain ⟨lo', S2, e2, g2⟩ := got_bnd g1
      refine ⟨ι1, env, S1, re1, sr1, lo', S2, e2, fun ι2 H2 l2 st2 sr2 hl => ?_⟩
      subst hl
      obtain ⟨hi', S3, e3, g3⟩ := got_bnd (got_step st2 g2)
      refine ⟨ι2, env, S2, re1.step st2, sr2, hi', S3, e3, fun ι3 H3 l3 st3 sr3 hl => ?_⟩
      subst hl
      exact ⟨ι3, S3, d, sr3, Rep.step (st2.trans st3) _ _ r, got_step st3 g3⟩
    · cases h
  | .absent, c, X, ex, f, h => by unfold ckE at h; cases h
  | .call g es, c, X, ex, f, h => by
    unfold ckE at h
    split at h
    · rename_i x p fs pos
      simp only [Bool.and_eq_true, decide_eq_true_eq] at h
      obtain ⟨⟨⟨h0, rfl⟩, h2⟩, h3⟩ := h
      obtain ⟨gl, gd⟩ := gl_in f h2
      obtain ⟨fa, fd, ps, k, hm, hk, ok, room, bi, _, hlen⟩ := f.fns g h0
      cases fs with
      | nil =>
        refine PE.imp (pe_call0 ok room gl hm hk bi .nil pass0 gd) fun σ H Q q => ?_
        obtain ⟨ι, env, S, re, sr, gg⟩ := q
        unfold evE at gg
        cases es with
        | cons _ _ => simp [ckEs] at h3
        | nil =>
          unfold evEs at gg
          rw [bnd_ok] at gg
          exact got_call sr .nil hlen gg
      | cons e0 fs =>
        have hst : noStar e0 = true := by
          cases es with
          | nil => simp [ckEs] at h3
          | cons e1 es1 =>
            unfold ckEs at h3
            rw [Bool.and_eq_true] at h3
            exact ck_star h3.1
        have hpl := back_plain (pos := pos) (env := X.env) h3
        rw [star_each hst] at hpl
        refine PE.imp (pe_call ok room gl hm hk bi .nil pass0 (sn_Es F es c X _ f h3) gd (star_each hst) (by unfold backTo at hpl ⊢; rw [List.map_cons, List.any_cons, Bool.or_eq_false_iff] at hpl; exact hpl.2)) fun σ H Q q => ?_
        obtain ⟨ι, env, S, re, sr, gg⟩ := q
        unfold evE at gg
        refine got_Es re sr gg fun ι1 H1 ds vs S1 st re1 sr1 r g1 => ?_
        rw [List.append_nil]
        exact got_call sr1 r hlen g1
    · cases h
  | .callk g es ks perm, c, X, ex, f, h => by
    unfold ckE at h
    split at h
    · rename_i x p fs kws pos
      simp only [Bool.and_eq_true, decide_eq_true_eq] at h
      obtain ⟨⟨⟨⟨⟨h0, rfl⟩, h2⟩, h3⟩, h4⟩, h5⟩ := h
      obtain ⟨gl, gd⟩ := gl_in f h2
      obtain ⟨fa, fd, ps, k, hm, hk, ok, room, bi, kb, hlen⟩ := f.fns g h0
      split at h3
      · rename_i ns hns
        have hin : (fs.length, ns, perm) ∈ ((c.kw.filter fun q => q.1 == g).map (·.2)) := List.mem_map.mpr ⟨_, List.mem_filter.mpr ⟨of_decide_eq_true h3, by simp⟩, rfl⟩
        have kb' := kb _ hin
        have lenk : ∀ {ι : List Addr} {H : Hp} {S S' : Store} {env : Env} {zs : List D} {ws : List V}, evEs F ks env S = .ok zs S' → Reps X.K ι H zs ws → ws.length = ns.length := fun {ι H S S' env zs ws} e r => by
          rw [← r.len, evEs_len e, ckKs_len h5, kw_len hns]
        cases fs with
        | nil =>
          refine PE.imp (pe_kw0 ok room gl gd hm hk kb' (sn_Ks F ks c X kws f h5) hns) fun σ H Q q => ?_
          obtain ⟨ι, env, S, re, sr, gg⟩ := q
          unfold evE at gg
          cases es with
          | cons _ _ => simp [ckEs] at h4
          | nil =>
            rw [show evEs F .nil env S = .ok [] S from by rw [evEs], bnd_ok] at gg
            obtain ⟨zs, S1, e1, g1⟩ := got_bnd gg
            refine ⟨ι, env, S, re, sr, zs, S1, e1, fun ι1 H1 ws st sr1 r => ?_⟩
            have hw := lenk e1 r
            exact ⟨hw, got_call sr1 (reps_perm r perm fun i hi => by rw [hw]; have := kb'.lt i hi; simpa using this) hlen (got_step st g1)⟩
        | cons e0 fs =>
          have hst : noStar e0 = true := by
            cases es with
            | nil => simp [ckEs] at h4
            | cons e1 es1 =>
              unfold ckEs at h4
              rw [Bool.and_eq_true] at h4
              exact ck_star h4.1
          refine PE.imp (pe_kw ok room gl gd hm hk kb' (sn_Es F es c X _ f h4) (sn_Ks F ks c X kws f h5) hns hst (back_plain h4)) fun σ H Q q => ?_
          obtain ⟨ι, env, S, re, sr, gg⟩ := q
          unfold evE at gg
          obtain ⟨ds, S1, e1, g1⟩ := got_bnd gg
          refine ⟨ι, env, S, re, sr, ds, S1, e1, fun ι1 H1 vs st sr1 r => ?_⟩
          obtain ⟨zs, S2, e2, g2⟩ := got_bnd (got_step st g1)
          refine ⟨ι1, env, S1, re.step st, sr1, zs, S2, e2, fun ι2 H2 ws st2 sr2 r2 => ?_⟩
          have hw := lenk e2 r2
          have hv : vs.length = (e0 :: fs).length := by rw [← r.len, evEs_len e1, ckEs_len h4]
          exact ⟨hv, hw, got_call sr2 (reps_perm ((Reps.step st2 _ _ r).append r2) perm fun i hi => by rw [List.length_append, hw, hv]; exact kb'.lt i hi) hlen (got_step st2 g2)⟩
      · cases h3
    · cases h
  | .prim p es, c, X, ex, f, h => by
    unfold ckE at h
    split at h
    · rename_i x px e0 fs pos
      simp only [Bool.and_eq_true, decide_eq_true_eq] at h
      obtain ⟨⟨rfl, h2⟩, h3⟩ := h
      obtain ⟨gl, hm, hn, gd⟩ := bl_of f h2
      have hst : noStar e0 = true := by
        cases es with
        | nil => simp [ckEs] at h3
        | cons e1 es1 =>
          unfold ckEs at h3
          rw [Bool.and_eq_true] at h3
          exact ck_star h3.1
      have hpl := back_plain (pos := pos) (env := X.env) h3
      rw [star_each hst] at hpl
      have hpl2 : (backTo pos (starEach fs X.env)).any (·.1) = false := by
        unfold backTo at hpl ⊢
        rw [List.map_cons, List.any_cons, Bool.or_eq_false_iff] at hpl
        exact hpl.2
      have pa := sn_Es F es c X _ f h3
      have rd : ∀ (p : Pr) σ H Q, RdE X.K F (.prim p es) σ H Q → RdEs X.K F es σ H fun vs H1 => PrS X.K p vs H1 Q := fun p σ H Q q => by
        obtain ⟨ι, env, S, re, sr, gg⟩ := q
        unfold evE at gg
        exact got_Es re sr gg fun ι1 H1 ds vs S1 st re1 sr1 r g1 => ⟨ι1, S1, ds, sr1, r, g1⟩
      have bt := boot_pr p
      cases p with
      | abs => exact PE.imp (pe_callB pr_abs gl hm bt pa hn gd (star_each hst) hpl2) (rd _)
      | int => exact PE.imp (pe_callTy pr_int gl hm bt pa hn gd (star_each hst) hpl2) (rd _)
      | len => exact PE.imp (pe_callB pr_len gl hm bt pa hn gd (star_each hst) hpl2) (rd _)
      | max => exact PE.imp (pe_callB (pr_max f.calm) gl hm bt pa hn gd (star_each hst) hpl2) (rd _)
      | min => exact PE.imp (pe_callB (pr_min f.calm) gl hm bt pa hn gd (star_each hst) hpl2) (rd _)
      | tuple => exact PE.imp (pe_callTy pr_tuple gl hm bt pa hn gd (star_each hst) hpl2) (rd _)
      | list => exact PE.imp (pe_callTy pr_list gl hm bt pa hn gd (star_each hst) hpl2) (rd _)
      | any => exact PE.imp (pe_callB (pr_any f.calm) gl hm bt pa hn gd (star_each hst) hpl2) (rd _)
    · cases h
  | .isin t a, c, X, ex, f, h => by
    unfold ckE at h
    split at h
    · rename_i x px e0 y py pos
      simp only [Bool.and_eq_true, decide_eq_true_eq] at h
      obtain ⟨⟨⟨⟨rfl, h2⟩, rfl⟩, h4⟩, h5⟩ := h
      obtain ⟨gl, hm, hn, gd⟩ := bl_of f h2
      obtain ⟨gl2, hm2, hn2, gd2⟩ := bl_of f h4
      have hst := ck_star h5
      refine PE.imp (pe_callB call_isi gl hm boot_isi (pa_cons (sn_E F a c X e0 f h5) (pa_cons (pe_bltn (v := .ty (tyN t)) gl2 hm2 (boot_ty t) rfl hn2 gd2) pa_nil) (star_each hst)) hn gd (star_each hst) rfl) fun σ H Q q => ?_
      obtain ⟨ι, env, S, re, sr, gg⟩ := q
      unfold evE at gg
      refine got_E re sr gg fun ι1 H1 d v S1 st re1 sr1 r g1 => ?_
      unfold ofB at g1
      split at g1
      · rename_i b eb
        exact ⟨v, _, _, _, b, rfl, .ty _, ty_of sr1 r, kit_ty (kit_is eb), got_val g1 sr1 (to_bl _)⟩
      · exact (got_bad g1).elim
    · cases h
  | .meth m o es, c, X, ex, f, h => by
    unfold ckE at h
    split at h
    · rename_i e0 n p fs pos
      simp only [Bool.and_eq_true, decide_eq_true_eq] at h
      obtain ⟨⟨⟨⟨⟨rfl, h2⟩, h3⟩, h4⟩, h5⟩, h6⟩ := h
      have rv : ∀ {d : D} {S : Store} {ι : List Addr} {H : Hp} {v : V}, SR X.K ι S H → Rep X.K ι H d v → recvOk m d S = true → tyV X.K "list" v H := fun {d S ι H v} sr r e => by
        unfold recvOk at e
        split at e
        · split at e
          · rename_i el
            obtain ⟨a, xs, rfl, _, q, _⟩ := rep_loc_lst sr r el
            exact .inl ⟨rfl, xs, SqL.of q⟩
          · cases e
        · cases e
      have base := base_of h4 (mtN m) X.env
      cases fs with
      | nil =>
        have rd : ∀ σ H Q, RdE X.K F (.meth m o es) σ H Q → RdE X.K F o σ H fun x H1 => tyV X.K "list" x H1 ∧ MtS X.K m x [] H1 Q := fun σ H Q q => by
          obtain ⟨ι, env, S, re, sr, gg⟩ := q
          unfold evE at gg
          refine got_E re sr gg fun ι1 H1 d v S1 st re1 sr1 r g1 => ?_
          rcases got_ite g1 with ⟨hr, g1⟩ | ⟨_, g1⟩
          · cases es with
            | cons _ _ => simp [ckEs] at h3
            | nil =>
              rw [show evEs F .nil env S1 = .ok [] S1 from by rw [evEs], bnd_ok] at g1
              exact ⟨rv sr1 r hr, ι1, S1, d, [], sr1, r, .nil, g1⟩
          · exact (got_bad g1).elim
        cases m with
        | append => exact PE.imp (pe_bm0 PySem.F.plainAttrs_list PySem.F.slot_list_append PySem.F.type_list_append mt_app (sn_E F o c X e0 f h2) base h5) rd
        | pop => exact PE.imp (pe_bm0 PySem.F.plainAttrs_list PySem.F.slot_list_pop PySem.F.type_list_pop mt_popS (sn_E F o c X e0 f h2) base h5) rd
        | reverse => exact PE.imp (pe_bm0 PySem.F.plainAttrs_list PySem.F.slot_list_reverse PySem.F.type_list_reverse mt_rev (sn_E F o c X e0 f h2) base h5) rd
      | cons e1 fs =>
        have hst : noStar e1 = true := by
          cases es with
          | nil => simp [ckEs] at h3
          | cons e2 es1 =>
            unfold ckEs at h3
            rw [Bool.and_eq_true] at h3
            exact ck_star h3.1
        have hpl := back_plain (pos := pos) (env := X.env) h3
        have hfew : ((backTo pos (starEach (e1 :: fs) X.env)).all (fun x => !x.1) && (backToKw pos (keywordEach [] X.env)).all (fun x => x.1.isSome)
            && decide ((e1 :: fs).length + ([] : List Keyword).length + (if ([] : List Keyword).isEmpty then 0 else 1) < 30)) = true := by
          have a1 : (backTo pos (starEach (e1 :: fs) X.env)).all (fun x => !x.1) = true := by
            rw [List.all_eq_true]
            intro x hx
            have := List.any_eq_false.mp hpl x hx
            simpa using this
          rw [a1]
          have a2 : (e1 :: fs).length + ([] : List Keyword).length + (if ([] : List Keyword).isEmpty then 0 else 1) < 30 := by
            show (e1 :: fs).length + 0 + 0 < 30
            omega
          rw [decide_eq_true a2]
          rfl
        rw [star_each hst] at hpl
        have hpl2 : (backTo pos (starEach fs X.env)).any (·.1) = false := by
          unfold backTo at hpl ⊢
          rw [List.map_cons, List.any_cons, Bool.or_eq_false_iff] at hpl
          exact hpl.2
        have pa := sn_Es F es c X _ f h3
        have rd : ∀ σ H Q, RdE X.K F (.meth m o es) σ H Q → RdE X.K F o σ H fun x H1 => tyV X.K "list" x H1 ∧ RdEs X.K F es σ H1 fun xs H2 => MtS X.K m x xs H2 Q := fun σ H Q q => by
          obtain ⟨ι, env, S, re, sr, gg⟩ := q
          unfold evE at gg
          refine got_E re sr gg fun ι1 H1 d v S1 st re1 sr1 r g1 => ?_
          rcases got_ite g1 with ⟨hr, g1⟩ | ⟨_, g1⟩
          · refine ⟨rv sr1 r hr, got_Es re1 sr1 g1 fun ι2 H2 ds vs S2 st2 re2 sr2 r2 g2 => ?_⟩
            exact ⟨ι2, S2, d, ds, sr2, Rep.step st2 _ _ r, r2, g2⟩
          · exact (got_bad g1).elim
        cases m with
        | append => exact PE.imp (pe_bm PySem.F.plainAttrs_list PySem.F.slot_list_append PySem.F.type_list_append mt_app (sn_E F o c X e0 f h2) pa base hfew h5 (star_each hst) hpl2) rd
        | pop => exact PE.imp (pe_bm PySem.F.plainAttrs_list PySem.F.slot_list_pop PySem.F.type_list_pop mt_popS (sn_E F o c X e0 f h2) pa base hfew h5 (star_each hst) hpl2) rd
        | reverse => exact PE.imp (pe_bm PySem.F.plainAttrs_list PySem.F.slot_list_reverse PySem.F.type_list_reverse mt_rev (sn_E F o c X e0 f h2) pa base hfew h5 (star_each hst) hpl2) rd
    · cases h
  | .gcon y k, c, X, ex, f, h => by
    unfold ckE at h
    split at h
    · simp only [Bool.and_eq_true, decide_eq_true_eq] at h
      obtain ⟨⟨rfl, h2⟩, h3⟩ := h
      obtain ⟨gl, gd⟩ := gl_in f h2
      obtain ⟨v, u, hm, rv, hr⟩ := (f.co _ _ h3).ex
      refine PE.imp (pe_glob gl hm rv gd) fun σ H Q q => ?_
      obtain ⟨ι, env, S, re, sr, g⟩ := q
      unfold evE at g
      exact got_val g sr (hr _ _)
    · cases h
  | .chain op op' a b d, c, X, ex, f, h => by
    unfold ckE at h
    split at h
    · simp only [Bool.and_eq_true, decide_eq_true_eq] at h
      obtain ⟨⟨⟨⟨rfl, rfl⟩, h1⟩, h2⟩, h3⟩ := h
      exact PE.imp (pe_chain (op_cmp f.un op) (op_cmp f.un op') (sn_E F a c X _ f h1) (sn_E F b c X _ f h2) (sn_E F d c X _ f h3) (ck_marks h3 _)) fun σ H Q q => chain_read q
    · cases h
  | .tupG elt t it cs own, c, X, ex, f, h => by
    unfold ckE at h
    split at h
    · rename_i x px el tg iter ifs as scope gp pos
      simp only [Bool.and_eq_true, decide_eq_true_eq] at h
      obtain ⟨⟨⟨⟨⟨⟨⟨⟨⟨⟨⟨⟨rfl, hb⟩, rfl⟩, hg⟩, hl⟩, h1⟩, h2⟩, h3⟩, h4⟩, h5⟩, h6⟩, h7⟩, h8⟩ := h
      obtain ⟨gl, hm, hn, gd⟩ := bl_of f hb
      obtain ⟨cA, P, hcd, TB, hP⟩ := f.gx hg
      obtain ⟨k, hr, fg⟩ := f.gen hg
      have ok : GX.GenOk X.N X.env.scope scope (ownP c.N own) := by rw [f.N, f.sc]; exact genOk_by h2
      have parts : GX.Parts X k tg el ifs scope (TgS X.K t) (RdB X.K fun e s => evTs F cs e s) (RdE X.K F elt) :=
        ⟨fun s H C cl code bi A fp hr => gen_tgt (c := c) (own := own) (fg s H scope C cl code bi A fp hr) h3 h4 h5, fun s H C cl code bi A fp hr => sn_Ts F cs _ _ ifs (fg s H scope C cl code bi A fp hr) h6 h7,
          fun s H C cl code bi A fp hr => sn_E F elt _ _ el (fg s H scope C cl code bi A fp hr) h8⟩
      have := GX.pe_tupG (p := px) (pos := pos) (gpos := gp) hr gl hm (by decide +kernel) TB hcd ok (by rw [f.N]; exact f.nd) f.calm (sn_It F it c X tg iter f h1) parts (ckIt_gen h1 hl X.env) hn gd
      rw [own_map] at this
      exact PE.imp this fun σ H Q q => tup_read hP (slots_own h3) q
    · cases h
  | .qual true elt t it cs own, c, X, ex, f, h => by
    unfold ckE at h
    split at h
    · rename_i x px el tg iter ifs as scope gp pos
      simp only [Bool.and_eq_true, decide_eq_true_eq] at h
      obtain ⟨⟨⟨⟨⟨⟨⟨⟨⟨⟨⟨⟨rfl, hb⟩, rfl⟩, hg⟩, hl⟩, h1⟩, h2⟩, h3⟩, h4⟩, h5⟩, h6⟩, h7⟩, h8⟩ := h
      obtain ⟨gl, hm, hn, gd⟩ := bl_of f hb
      obtain ⟨cA, P, hcd, TB, hP⟩ := f.gx hg
      obtain ⟨k, hr, fg⟩ := f.gen hg
      have ok : GX.GenOk X.N X.env.scope scope (ownP c.N own) := by rw [f.N, f.sc]; exact genOk_by h2
      have parts : GX.Parts X k tg el ifs scope (TgS X.K t) (RdB X.K fun e s => evTs F cs e s) (RdE X.K F elt) :=
        ⟨fun s H C cl code bi A fp hr => gen_tgt (c := c) (own := own) (fg s H scope C cl code bi A fp hr) h3 h4 h5, fun s H C cl code bi A fp hr => sn_Ts F cs _ _ ifs (fg s H scope C cl code bi A fp hr) h6 h7,
          fun s H C cl code bi A fp hr => sn_E F elt _ _ el (fg s H scope C cl code bi A fp hr) h8⟩
      have := GX.pe_allG (p := px) (pos := pos) (gpos := gp) (k := k) (hr.mono (by omega)) gl hm (by decide +kernel) TB hcd ok (by rw [f.N]; exact f.nd) f.calm (sn_It F it c X tg iter f h1) parts (ckIt_gen h1 hl X.env)
      rw [own_map] at this
      exact PE.imp this fun σ H Q q => all_read hP (slots_own h3) q
    · cases h
  | .qual false elt t it cs own, c, X, ex, f, h => by
    unfold ckE at h
    split at h
    · rename_i x px el tg iter ifs as scope gp pos
      simp only [Bool.and_eq_true, decide_eq_true_eq] at h
      obtain ⟨⟨⟨⟨⟨⟨⟨⟨⟨⟨⟨⟨rfl, hb⟩, rfl⟩, hg⟩, hl⟩, h1⟩, h2⟩, h3⟩, h4⟩, h5⟩, h6⟩, h7⟩, h8⟩ := h
      obtain ⟨gl, hm, hn, gd⟩ := bl_of f hb
      obtain ⟨cA, P, hcd, TB, hP⟩ := f.gx hg
      obtain ⟨k, hr, fg⟩ := f.gen hg
      have ok : GX.GenOk X.N X.env.scope scope (ownP c.N own) := by rw [f.N, f.sc]; exact genOk_by h2
      have parts : GX.Parts X k tg el ifs scope (TgS X.K t) (RdB X.K fun e s => evTs F cs e s) (RdE X.K F elt) :=
        ⟨fun s H C cl code bi A fp hr => gen_tgt (c := c) (own := own) (fg s H scope C cl code bi A fp hr) h3 h4 h5, fun s H C cl code bi A fp hr => sn_Ts F cs _ _ ifs (fg s H scope C cl code bi A fp hr) h6 h7,
          fun s H C cl code bi A fp hr => sn_E F elt _ _ el (fg s H scope C cl code bi A fp hr) h8⟩
      have := GX.pe_anyG (p := px) (pos := pos) (gpos := gp) (k := k) (hr.mono (by omega)) gl hm TB hcd ok (by rw [f.N]; exact f.nd) f.calm (sn_It F it c X tg iter f h1) parts (ckIt_gen h1 hl X.env)
      rw [own_map] at this
      exact PE.imp this fun σ H Q q => any_read hP (slots_own h3) q
    · cases h
  | .sumG elt t it cs own, c, X, ex, f, h => by
    unfold ckE at h
    split at h
    · rename_i x px el tg iter ifs as scope gp pos
      simp only [Bool.and_eq_true, decide_eq_true_eq] at h
      obtain ⟨⟨⟨⟨⟨⟨⟨⟨⟨⟨⟨⟨rfl, hb⟩, rfl⟩, hg⟩, hl⟩, h1⟩, h2⟩, h3⟩, h4⟩, h5⟩, h6⟩, h7⟩, h8⟩ := h
      obtain ⟨gl, hm, hn, gd⟩ := bl_of f hb
      obtain ⟨cA, P, hcd, TB, hP⟩ := f.gx hg
      obtain ⟨k, hr, fg⟩ := f.gen hg
      have ok : GX.GenOk X.N X.env.scope scope (ownP c.N own) := by rw [f.N, f.sc]; exact genOk_by h2
      have parts : GX.Parts X k tg el ifs scope (TgS X.K t) (RdB X.K fun e s => evTs F cs e s) (RdE X.K F elt) :=
        ⟨fun s H C cl code bi A fp hr => gen_tgt (c := c) (own := own) (fg s H scope C cl code bi A fp hr) h3 h4 h5, fun s H C cl code bi A fp hr => sn_Ts F cs _ _ ifs (fg s H scope C cl code bi A fp hr) h6 h7,
          fun s H C cl code bi A fp hr => sn_E F elt _ _ el (fg s H scope C cl code bi A fp hr) h8⟩
      have := GX.pe_sumG (p := px) (pos := pos) (gpos := gp) (k := k) (hr.mono (by omega)) gl hm (by decide +kernel) TB hcd ok (by rw [f.N]; exact f.nd) f.calm (sn_It F it c X tg iter f h1) parts (ckIt_gen h1 hl X.env)
      rw [own_map] at this
      exact PE.imp this fun σ H Q q => sum_read hP (slots_own h3) q
    · cases h
  | .lc2 elt t it cs own t1 it1 cs1 own1, c, X, ex, f, h => by
    unfold ckE at h
    split at h
    · rename_i el tg iter ifs as tg1 iter1 ifs1 as1 scope pos
      simp only [Bool.and_eq_true, decide_eq_true_eq] at h
      obtain ⟨⟨⟨⟨⟨⟨⟨⟨⟨⟨⟨⟨⟨⟨⟨rfl, rfl⟩, g1⟩, g2⟩, g3⟩, g4⟩, k1⟩, k2⟩, g5⟩, g6⟩, g7⟩, k3⟩, k4⟩, k5⟩, k6⟩, g8⟩ := h
      obtain ⟨ok, hg, hsl⟩ := lc_ok t own c X tg scope f g2 g3 g4 g5
      have kk : (slotsT t1).all (fun i => own.contains i) = true := List.all_eq_true.mpr fun i hi => List.all_eq_true.mp k2 i (slots_own k1 i hi)
      obtain ⟨_, hg1, _⟩ := lc_ok t1 own c X tg1 scope f g2 kk g4 k4
      have he : ∀ (s : Shared) (H : Hp) (C : Addr) (cl : List (Str × Addr)) (fp : List Addr), PE (X.blk s H scope (compEnvC scope cl C X.env) fp) el (RdE X.K F elt) := fun s H C cl fp => sn_E F elt _ _ el (f.blk s H scope C cl fp) g8
      have ht : ∀ (s : Shared) (H : Hp) (C : Addr) (cl : List (Str × Addr)) (fp : List Addr), PTs (X.blk s H scope (compEnvC scope cl C X.env) fp) ifs (RdB X.K fun e s => evTs F cs e s) := fun s H C cl fp => sn_Ts F cs _ _ ifs (f.blk s H scope C cl fp) g6 g7
      have ht1 : ∀ (s : Shared) (H : Hp) (C : Addr) (cl : List (Str × Addr)) (fp : List Addr), PTs (X.blk s H scope (compEnvC scope cl C X.env) fp) ifs1 (RdB X.K fun e s => evTs F cs1 e s) := fun s H C cl fp => sn_Ts F cs1 _ _ ifs1 (f.blk s H scope C cl fp) k5 k6
      have hi1 : ∀ (s : Shared) (H : Hp) (C : Addr) (cl : List (Str × Addr)) (fp : List Addr), PI (X.blk s H scope (compEnvC scope cl C X.env) fp) tg1 iter1 (RdI X.K F it1) := fun s H C cl fp => sn_It F it1 _ _ tg1 iter1 (f.blk s H scope C cl fp) k3
      have := pe_lc2 (X := X) (elt := el) (pos := pos) (vs1 := own1) f.calm (by rw [f.N]; exact f.nd) (sn_It F it c X tg iter f g1) ok (by rw [own_map]; exact fun i hi => by simpa using List.all_eq_true.mp k2 i hi) hg
        ht hi1 hg1 ht1
        he (ckIt_fold g1 X.env) (fun env => ckIt_fold k3 env)
      rw [own_map] at this
      exact PE.imp this fun σ H Q q => lc2_read hsl (slots_own k1) q
    · cases h
  | .lc elt t it cs own, c, X, ex, f, h => by
    unfold ckE at h
    split at h
    · rename_i el tg iter ifs as scope pos
      simp only [Bool.and_eq_true, decide_eq_true_eq] at h
      obtain ⟨⟨⟨⟨⟨⟨⟨⟨rfl, h1⟩, h2⟩, h3⟩, h4⟩, h5⟩, h6⟩, h7⟩, h8⟩ := h
      obtain ⟨ok, hg, hsl⟩ := lc_ok t own c X tg scope f h2 h3 h4 h5
      have hi : PI X tg iter (RdI X.K F it) := sn_It F it c X tg iter f h1
      have ht : ∀ (s : Shared) (H : Hp) (C : Addr) (cl : List (Str × Addr)) (fp : List Addr), PTs (X.blk s H scope (compEnvC scope cl C X.env) fp) ifs (RdB X.K fun e s => evTs F cs e s) := fun s H C cl fp => sn_Ts F cs _ _ ifs (f.blk s H scope C cl fp) h6 h7
      have he : ∀ (s : Shared) (H : Hp) (C : Addr) (cl : List (Str × Addr)) (fp : List Addr), PE (X.blk s H scope (compEnvC scope cl C X.env) fp) el (RdE X.K F elt) := fun s H C cl fp => sn_E F elt _ _ el (f.blk s H scope C cl fp) h8
      have hown : (ownP c.N own).map (·.2) = own := by unfold ownP; rw [List.map_map]; exact List.map_id' own
      have := pe_lc (pos := pos) f.calm (by rw [f.N]; exact f.nd) hi ok hg ht he (ckIt_fold h1 X.env)
      rw [hown] at this
      exact PE.imp this fun σ H Q q => lc_read hsl q
    · cases h
theorem sn_Es (F : Fns) : ∀ (es : Es) (c : Cn) (X : Cx) (xs : List Expr), Fits c F X → ckEs c es xs = true → PA X xs (RdEs X.K F es)
  | .nil, c, X, [], f, h => by
    refine PA.imp pa_nil fun σ H Q q => ?_
    obtain ⟨ι, env, S, re, sr, g⟩ := q
    unfold evEs at g
    exact got_ok g ι H [] Step.refl sr Reps.nil
  | .nil, c, X, _ :: _, f, h => by simp [ckEs] at h
  | .cons _ _, c, X, [], f, h => by simp [ckEs] at h
  | .cons e es, c, X, x :: xs, f, h => by
    unfold ckEs at h
    rw [Bool.and_eq_true] at h
    refine PA.imp (pa_cons (sn_E F e c X x f h.1) (sn_Es F es c X xs f h.2) (star_each (ck_star h.1))) fun σ H Q q => ?_
    obtain ⟨ι, env, S, re, sr, g⟩ := q
    unfold evEs at g
    refine got_E re sr g fun ι1 H1 d v S1 st re1 sr1 r g1 => ?_
    refine got_Es re1 sr1 g1 fun ι2 H2 d2 v2 S2 st2 re2 sr2 r2 g2 => ?_
    exact got_ok g2 ι2 H2 _ Step.refl sr2 (.cons (Rep.step st2 _ _ r) r2)
theorem sn_Ks (F : Fns) : ∀ (es : Es) (c : Cn) (X : Cx) (xs : List Keyword), Fits c F X → ckKs c es xs = true → PK X xs (RdEs X.K F es)
  | .nil, c, X, [], f, h => by
    refine PK.imp pk_nil fun σ H Q q => ?_
    obtain ⟨ι, env, S, re, sr, g⟩ := q
    unfold evEs at g
    exact got_ok g ι H [] Step.refl sr Reps.nil
  | .nil, c, X, _ :: _, f, h => by simp [ckKs] at h
  | .cons _ _, c, X, [], f, h => by simp [ckKs] at h
  | .cons e es, c, X, ⟨none, x, p⟩ :: xs, f, h => by simp [ckKs] at h
  | .cons e es, c, X, ⟨some n, x, p⟩ :: xs, f, h => by
    unfold ckKs at h
    rw [Bool.and_eq_true] at h
    refine PK.imp (pk_cons (sn_E F e c X x f h.1) (sn_Ks F es c X xs f h.2)) fun σ H Q q => ?_
    obtain ⟨ι, env, S, re, sr, g⟩ := q
    unfold evEs at g
    refine got_E re sr g fun ι1 H1 d v S1 st re1 sr1 r g1 => ?_
    refine got_Es re1 sr1 g1 fun ι2 H2 d2 v2 S2 st2 re2 sr2 r2 g2 => ?_
    exact got_ok g2 ι2 H2 _ Step.refl sr2 (.cons (Rep.step st2 _ _ r) r2)
theorem sn_It (F : Fns) : ∀ (it : It) (c : Cn) (X : Cx) (tg ex : Expr), Fits c F X → ckIt c it ex = true → PI X tg ex (RdI X.K F it)
  | .seq e, c, X, tg, ex, f, h => by
    unfold ckIt at h
    have pe := sn_E F e c X ex f h
    refine ⟨fun pins s σ H R I q => ?_⟩
    obtain ⟨ι, env, S, w, S1, re, sr, ew, q⟩ := q
    unfold evIt at ew
    obtain ⟨d, S2, e1, e2⟩ := bnd_eq_ok ew
    have rd : ∀ {P : VK}, (∀ ι1 H1 v, Step ι H ι1 H1 → SR X.K ι1 S2 H1 → Rep X.K ι1 H1 d v → P v H1) → RdE X.K F e σ H P := fun {P} hp => ⟨ι, env, S, re, sr, d, S2, e1, hp⟩
    cases d with
    | tup ds =>
      cases e2
      exact (pi_tup (tg := tg) pe).run pins s σ H R I (rd fun ι1 H1 v st sr1 r => by
        obtain ⟨a, xs, rfl, hq, rr⟩ := rep_tup r
        exact ⟨a, rfl, ⟨xs, hq⟩, q ι1 H1 _ st sr1 (walks_tup hq rr)⟩)
    | rls ds =>
      cases e2
      exact (pi_list (tg := tg) pe).run pins s σ H R I (rd fun ι1 H1 v st sr1 r => by
        obtain ⟨a, xs, rfl, hq, rr⟩ := rep_rls r
        exact ⟨a, rfl, ⟨xs, hq.seq⟩, q ι1 H1 _ st sr1 (walks_rls hq rr)⟩)
    | loc l =>
      dsimp only at e2
      split at e2
      · rename_i ds el
        cases e2
        exact (pi_list (tg := tg) pe).run pins s σ H R I (rd fun ι1 H1 v st sr1 r => by
          obtain ⟨a, xs, rfl, ha, hq, rr⟩ := rep_loc_lst sr1 r el
          exact ⟨a, rfl, ⟨xs, SqL.of hq⟩, q ι1 H1 _ st sr1 (walks_lst ha)⟩)
      · cases e2
    | _ => cases e2
  | .range1 e, c, X, tg, ex, f, h => by
    unfold ckIt at h
    split at h
    · simp only [Bool.and_eq_true, decide_eq_true_eq] at h
      obtain ⟨⟨rfl, h2⟩, h3⟩ := h
      obtain ⟨gl, hm, hn, gd⟩ := bl_of f h2
      refine PI.imp (pi_range1 gl hm (pa_cons (sn_E F e c X _ f h3) pa_nil (star_each (ck_star h3))) (star_each (ck_star h3))) fun σ H R q => ?_
      obtain ⟨ι, env, S, w, S1, re, sr, ew, q⟩ := q
      unfold evIt at ew
      obtain ⟨d, S2, e1, e2⟩ := bnd_eq_ok ew
      refine ⟨ι, env, S, re, sr, d, S2, e1, fun ι1 H1 v st sr1 r => ?_⟩
      split at e2
      · rename_i n
        split at e2
        · rename_i hb
          cases e2
          exact ⟨n, by rw [rep_int r], hb.lo, hb.hi, q ι1 H1 _ st sr1 (walks_rng 0 n.toNat)⟩
        · cases e2
      · cases e2
    · cases h
  | .range2 e e', c, X, tg, ex, f, h => by
    unfold ckIt at h
    split at h
    · simp only [Bool.and_eq_true, decide_eq_true_eq] at h
      obtain ⟨⟨⟨rfl, h2⟩, h3⟩, h4⟩ := h
      obtain ⟨gl, hm, hn, gd⟩ := bl_of f h2
      have s1 := ck_star h3
      have s2 := ck_star h4
      refine PI.imp (pi_range2 gl hm (pa_cons (sn_E F e c X _ f h3) (pa_cons (sn_E F e' c X _ f h4) pa_nil (star_each s2)) (star_each s1)) (by rw [star_each s1, star_each s2]; rfl) (by rw [star_each s2]; rfl)) fun σ H R q => ?_
      obtain ⟨ι, env, S, w, S1, re, sr, ew, q⟩ := q
      unfold evIt at ew
      obtain ⟨d, S2, e1, e2⟩ := bnd_eq_ok ew
      refine ⟨ι, env, S, re, sr, d, S2, e1, fun ι1 H1 v st sr1 r => ?_⟩
      obtain ⟨d2, S3, e3, e4⟩ := bnd_eq_ok e2
      refine ⟨ι1, env, S2, re.step st, sr1, d2, S3, e3, fun ι2 H2 v2 st2 sr2 r2 => ?_⟩
      split at e4
      · rename_i i j
        split at e4
        · rename_i hb
          cases e4
          exact ⟨i, j, by rw [rep_int r, rep_int r2], ⟨hb.1.lo, hb.1.hi, hb.2.lo, hb.2.hi⟩, q ι2 H2 _ (st.trans st2) sr2 (walks_rng i (j - i).toNat)⟩
        · cases e4
      · cases e4
    · cases h
theorem sn_Ts (F : Fns) : ∀ (cs : Es) (c : Cn) (X : Cx) (ifs : List Expr), Fits c F X → ckEs c cs ifs = true → ifs.length ≤ 1 → PTs X ifs (RdB X.K fun e s => evTs F cs e s)
  | .nil, c, X, [], f, h, _ => by
    refine ⟨fun pins s' σ H' Q I q => pts_nil.run pins s' σ H' Q I ?_⟩
    obtain ⟨ι, env, S, re, sr, g⟩ := q
    dsimp only at g
    rw [evTs] at g
    exact got_ok g ι H' true Step.refl sr rfl
  | .nil, c, X, _ :: _, f, h, _ => by simp [ckEs] at h
  | .cons _ _, c, X, [], f, h, _ => by simp [ckEs] at h
  | .cons _ _, c, X, _ :: _ :: _, f, h, h7 => by simp at h7
  | .cons e es, c, X, [x], f, h, _ => by
    rw [ckEs, Bool.and_eq_true] at h
    refine ⟨fun pins s' σ H' Q I q => (pts_one (sn_T F e c X x f h.1 (sn_E F e c X x f h.1))).run pins s' σ H' Q I ?_⟩
    obtain ⟨ι, env, S, re, sr, g⟩ := q
    dsimp only at g
    rw [evTs] at g
    exact ⟨ι, env, S, re, sr, g⟩
theorem sn_and (F : Fns) : ∀ (es : Es) (c : Cn) (X : Cx) (xs : List Expr) (pos : Pos), Fits c F X → ckEs c es xs = true → PE X (.BoolOp .And xs pos) (RdV X.K (evAnd F es))
  | .nil, c, X, xs, pos, f, h => by
    refine PE.imp (t := fun _ _ _ => False) ⟨fun _ _ _ _ _ _ z => z.elim⟩ fun σ H Q q => ?_
    obtain ⟨ι, env, S, re, sr, g⟩ := q
    unfold evAnd at g
    exact got_bad g
  | .cons e es, c, X, [], pos, f, h => by simp [ckEs] at h
  | .cons e .nil, c, X, x :: y :: xs, pos, f, h => by simp [ckEs] at h
  | .cons e (.cons e' es), c, X, [x], pos, f, h => by simp [ckEs] at h
  | .cons e .nil, c, X, [x], pos, f, h => by
    unfold ckEs at h
    rw [Bool.and_eq_true] at h
    refine PE.imp (pe_one (sn_E F e c X x f h.1)) fun σ H Q q => ?_
    obtain ⟨ι, env, S, re, sr, g⟩ := q
    rw [ev_and1] at g
    exact ⟨ι, env, S, re, sr, g⟩
  | .cons e (.cons e' es), c, X, x :: y :: xs, pos, f, h => by
    have h' : ckE c e x = true ∧ ckEs c (.cons e' es) (y :: xs) = true := by
      rw [ckEs, Bool.and_eq_true] at h
      exact h
    refine PE.imp (pe_andT (sn_E F e c X x f h'.1) (sn_and F (.cons e' es) c X (y :: xs) pos f h'.2)) fun σ H Q q => ?_
    obtain ⟨ι, env, S, re, sr, g⟩ := q
    rw [ev_and2] at g
    refine got_E re sr g fun ι1 H1 d v S1 st re1 sr1 r g1 => ?_
    split at g1
    · rename_i et
      exact ⟨true, tru_of sr1 r et, ι1, env, S1, re1, sr1, g1⟩
    · rename_i et
      exact ⟨false, tru_of sr1 r et, got_val g1 sr1 r⟩
    · exact (got_bad g1).elim
theorem sn_or (F : Fns) : ∀ (es : Es) (c : Cn) (X : Cx) (xs : List Expr) (pos : Pos), Fits c F X → ckEs c es xs = true → PE X (.BoolOp .Or xs pos) (RdV X.K (evOr F es))
  | .nil, c, X, xs, pos, f, h => by
    refine PE.imp (t := fun _ _ _ => False) ⟨fun _ _ _ _ _ _ z => z.elim⟩ fun σ H Q q => ?_
    obtain ⟨ι, env, S, re, sr, g⟩ := q
    unfold evOr at g
    exact got_bad g
  | .cons e es, c, X, [], pos, f, h => by simp [ckEs] at h
  | .cons e .nil, c, X, x :: y :: xs, pos, f, h => by simp [ckEs] at h
  | .cons e (.cons e' es), c, X, [x], pos, f, h => by simp [ckEs] at h
  | .cons e .nil, c, X, [x], pos, f, h => by
    unfold ckEs at h
    rw [Bool.and_eq_true] at h
    refine PE.imp (pe_one (sn_E F e c X x f h.1)) fun σ H Q q => ?_
    obtain ⟨ι, env, S, re, sr, g⟩ := q
    rw [ev_or1] at g
    exact ⟨ι, env, S, re, sr, g⟩
  | .cons e (.cons e' es), c, X, x :: y :: xs, pos, f, h => by
    have h' : ckE c e x = true ∧ ckEs c (.cons e' es) (y :: xs) = true := by
      rw [ckEs, Bool.and_eq_true] at h
      exact h
    refine PE.imp (pe_orT (sn_E F e c X x f h'.1) (sn_or F (.cons e' es) c X (y :: xs) pos f h'.2)) fun σ H Q q => ?_
    obtain ⟨ι, env, S, re, sr, g⟩ := q
    rw [ev_or2] at g
    refine got_E re sr g fun ι1 H1 d v S1 st re1 sr1 r g1 => ?_
    split at g1
    · rename_i et
      exact ⟨false, tru_of sr1 r et, ι1, env, S1, re1, sr1, g1⟩
    · rename_i et
      exact ⟨true, tru_of sr1 r et, got_val g1 sr1 r⟩
    · exact (got_bad g1).elim
theorem sn_T (F : Fns) : ∀ (e : E) (c : Cn) (X : Cx) (ex : Expr), Fits c F X → ckE c e ex = true → PE X ex (RdE X.K F e) → PT X ex (RdB X.K fun env S => truR (evE F e env S))
  | .not a, c, X, ex, f, h, _ => by
    unfold ckE at h
    split at h
    · refine PT.imp (pt_not (sn_T F a c X _ f h (sn_E F a c X _ f h))) fun σ H Q q => ?_
      obtain ⟨ι, env, S, re, sr, g⟩ := q
      dsimp only at g
      rw [evE] at g
      obtain ⟨b, S1, e1, g1⟩ := got_not g
      exact ⟨ι, env, S, re, sr, b, S1, e1, fun ι1 H1 b' st sr1 hb => by subst hb; exact got_ok g1 ι1 H1 _ st sr1 rfl⟩
    · cases h
  | .and es, c, X, ex, f, h, _ => by
    unfold ckE at h
    split at h
    · refine PT.imp (sn_Tand F es c X _ _ f h).pt fun σ H Q q => ?_
      obtain ⟨ι, env, S, re, sr, g⟩ := q
      dsimp only at g
      rw [evE] at g
      exact ⟨ι, env, S, re, sr, g⟩
    · cases h
  | .or es, c, X, ex, f, h, _ => by
    unfold ckE at h
    split at h
    · refine PT.imp (sn_Tor F es c X _ _ f h).pt fun σ H Q q => ?_
      obtain ⟨ι, env, S, re, sr, g⟩ := q
      dsimp only at g
      rw [evE] at g
      exact ⟨ι, env, S, re, sr, g⟩
    · cases h
  | .cmp op a b, c, X, ex, f, h, _ => by
    unfold ckE at h
    split at h
    · simp only [Bool.and_eq_true, decide_eq_true_eq] at h
      obtain ⟨⟨rfl, h1⟩, h2⟩ := h
      refine PT.imp (pt_cmpR (op_cmp f.un op) (sn_E F a c X _ f h1) (sn_E F b c X _ f h2) (ck_marks h2 _)) fun σ H Q q => ?_
      obtain ⟨ι, env, S, re, sr, g⟩ := q
      dsimp only at g
      rw [evE] at g
      unfold truR at g
      rw [bnd_assoc] at g
      refine got_E re sr g fun ι1 H1 d v S1 st re1 sr1 r g1 => ?_
      rw [bnd_assoc] at g1
      refine got_E re1 sr1 g1 fun ι2 H2 d2 v2 S2 st2 re2 sr2 r2 g2 => ?_
      refine ⟨ι2, S2, d, d2, sr2, Rep.step st2 _ _ r, r2, ?_⟩
      obtain ⟨z, S3, e3, g3⟩ := got_bnd g2
      refine ⟨z, S3, e3, fun ι3 H3 v3 st3 sr3 r3 => ?_⟩
      unfold ofB at e3
      split at e3
      · cases e3
        exact ⟨_, rep_bl r3, got_ok g3 ι3 H3 _ st3 sr3 rfl⟩
      · cases e3
    · cases h
  | .chain op op' a b d, c, X, ex, f, h, _ => by
    unfold ckE at h
    split at h
    · simp only [Bool.and_eq_true, decide_eq_true_eq] at h
      obtain ⟨⟨⟨⟨rfl, rfl⟩, h1⟩, h2⟩, h3⟩ := h
      refine PT.imp (pt_chain (op_cmp f.un op) (op_cmp f.un op') (sn_E F a c X _ f h1) (sn_E F b c X _ f h2) (sn_E F d c X _ f h3) (ck_marks h3 _)) fun σ H Q q => ?_
      refine chain_read ?_
      obtain ⟨ι, env, S, re, sr, g⟩ := q
      dsimp only at g
      unfold truR at g
      obtain ⟨z, S3, e3, g3⟩ := got_bnd g
      refine ⟨ι, env, S, re, sr, z, S3, e3, fun ι3 H3 v3 st3 sr3 r3 => ?_⟩
      obtain ⟨kb, rfl⟩ : ∃ kb, z = .bl kb := by
        rw [evE] at e3
        obtain ⟨x1, T1, _, e4⟩ := bnd_eq_ok e3
        obtain ⟨x2, T2, _, e5⟩ := bnd_eq_ok e4
        obtain ⟨x3, T3, e6, e7⟩ := bnd_eq_ok e5
        have ofb : ∀ {o : Option Bool} {T T' : Store} {r : D}, ofB o T = .ok r T' → ∃ kb, r = .bl kb := fun {o T T' r} e => by
          unfold ofB at e
          split at e
          · cases e; exact ⟨_, rfl⟩
          · cases e
        obtain ⟨k1, rfl⟩ := ofb e6
        cases k1 with
        | true =>
          obtain ⟨x5, T5, _, e9⟩ := bnd_eq_ok e7
          exact ofb e9
        | false => cases e7; exact ⟨_, rfl⟩
      exact ⟨_, rep_bl r3, got_ok (got_step st3 g3) ι3 H3 _ Step.refl sr3 rfl⟩
    · cases h
  | .ite k a b, c, X, ex, f, h, _ => by
    unfold ckE at h
    split at h
    · simp only [Bool.and_eq_true] at h
      obtain ⟨⟨h0, h1⟩, h2⟩ := h
      refine PT.imp (pt_ite (sn_T F k c X _ f h0 (sn_E F k c X _ f h0)) (sn_T F a c X _ f h1 (sn_E F a c X _ f h1)) (sn_T F b c X _ f h2 (sn_E F b c X _ f h2))) fun σ H Q q => ?_
      obtain ⟨ι, env, S, re, sr, g⟩ := q
      dsimp only at g
      rw [evE] at g
      unfold truR at g
      rw [bnd_assoc] at g
      refine got_B (f := fun env S => truR (evE F k env S)) re sr g fun ι1 H1 d S1 st re1 sr1 g1 => ?_
      cases d with
      | true => exact ⟨ι1, env, S1, re1, sr1, g1⟩
      | false => exact ⟨ι1, env, S1, re1, sr1, g1⟩
    · cases h
  | .var i, c, X, ex, f, h, pe => PT.imp (pt_truth pe (plain_of h (by rfl))) fun _ _ _ => tru_read
  | .cint i, c, X, ex, f, h, pe => PT.imp (pt_truth pe (plain_of h (by rfl))) fun _ _ _ => tru_read
  | .cbl i, c, X, ex, f, h, pe => PT.imp (pt_truth pe (plain_of h (by rfl))) fun _ _ _ => tru_read
  | .cnon, c, X, ex, f, h, pe => PT.imp (pt_truth pe (plain_of h (by rfl))) fun _ _ _ => tru_read
  | .cstr i, c, X, ex, f, h, pe => PT.imp (pt_truth pe (plain_of h (by rfl))) fun _ _ _ => tru_read
  | .tup i, c, X, ex, f, h, pe => PT.imp (pt_truth pe (plain_of h (by rfl))) fun _ _ _ => tru_read
  | .lst i, c, X, ex, f, h, pe => PT.imp (pt_truth pe (plain_of h (by rfl))) fun _ _ _ => tru_read
  | .bin i a b, c, X, ex, f, h, pe => PT.imp (pt_truth pe (plain_of h (by rfl))) fun _ _ _ => tru_read
  | .neg i, c, X, ex, f, h, pe => PT.imp (pt_truth pe (plain_of h (by rfl))) fun _ _ _ => tru_read
  | .idx i a, c, X, ex, f, h, pe => PT.imp (pt_truth pe (plain_of h (by rfl))) fun _ _ _ => tru_read
  | .slc i a b, c, X, ex, f, h, pe => PT.imp (pt_truth pe (plain_of h (by rfl))) fun _ _ _ => tru_read
  | .absent, c, X, ex, f, h, pe => PT.imp (pt_truth pe (plain_of h (by rfl))) fun _ _ _ => tru_read
  | .call i a, c, X, ex, f, h, pe => PT.imp (pt_truth pe (plain_of h (by rfl))) fun _ _ _ => tru_read
  | .callk i a b d, c, X, ex, f, h, pe => PT.imp (pt_truth pe (plain_of h (by rfl))) fun _ _ _ => tru_read
  | .prim i a, c, X, ex, f, h, pe => PT.imp (pt_truth pe (plain_of h (by rfl))) fun _ _ _ => tru_read
  | .isin i a, c, X, ex, f, h, pe => PT.imp (pt_truth pe (plain_of h (by rfl))) fun _ _ _ => tru_read
  | .meth i a b, c, X, ex, f, h, pe => PT.imp (pt_truth pe (plain_of h (by rfl))) fun _ _ _ => tru_read
  | .lc i a b d g, c, X, ex, f, h, pe => PT.imp (pt_truth pe (plain_of h (by rfl))) fun _ _ _ => tru_read
  | .gcon i a, c, X, ex, f, h, pe => PT.imp (pt_truth pe (plain_of h (by rfl))) fun _ _ _ => tru_read
  | .tupG i a b d g, c, X, ex, f, h, pe => PT.imp (pt_truth pe (plain_of h (by rfl))) fun _ _ _ => tru_read
  | .qual _ i a b d g, c, X, ex, f, h, pe => PT.imp (pt_truth pe (plain_of h (by rfl))) fun _ _ _ => tru_read
  | .sumG i a b d g, c, X, ex, f, h, pe => PT.imp (pt_truth pe (plain_of h (by rfl))) fun _ _ _ => tru_read
  | .lc2 i a b d g _ _ _ _, c, X, ex, f, h, pe => PT.imp (pt_truth pe (plain_of h (by rfl))) fun _ _ _ => tru_read
theorem sn_Tand (F : Fns) : ∀ (es : Es) (c : Cn) (X : Cx) (xs : List Expr) (pos : Pos), Fits c F X → ckEs c es xs = true → PW X (.BoolOp .And xs pos) (RdB X.K fun env S => truR (evAnd F es env S))
  | .nil, c, X, xs, pos, f, h => by
    refine PW.imp (t := fun _ _ _ => False) ⟨fun _ _ _ _ _ _ _ z => z.elim⟩ fun σ H Q q => ?_
    obtain ⟨ι, env, S, re, sr, g⟩ := q
    dsimp only at g
    rw [evAnd] at g
    exact got_bad g
  | .cons e es, c, X, [], pos, f, h => by simp [ckEs] at h
  | .cons e .nil, c, X, x :: y :: xs, pos, f, h => by simp [ckEs] at h
  | .cons e (.cons e' es), c, X, [x], pos, f, h => by simp [ckEs] at h
  | .cons e .nil, c, X, [x], pos, f, h => by
    rw [ckEs, Bool.and_eq_true] at h
    refine PW.imp (pw_and1 (sn_T F e c X x f h.1 (sn_E F e c X x f h.1))) fun σ H Q q => ?_
    obtain ⟨ι, env, S, re, sr, g⟩ := q
    dsimp only at g
    rw [ev_and1] at g
    exact ⟨ι, env, S, re, sr, g⟩
  | .cons e (.cons e' es), c, X, x :: y :: xs, pos, f, h => by
    have h' : ckE c e x = true ∧ ckEs c (.cons e' es) (y :: xs) = true := by
      rw [ckEs, Bool.and_eq_true] at h
      exact h
    refine PW.imp (pw_and (sn_T F e c X x f h'.1 (sn_E F e c X x f h'.1)) (sn_Tand F (.cons e' es) c X (y :: xs) pos f h'.2)) fun σ H Q q => ?_
    obtain ⟨ι, env, S, re, sr, g⟩ := q
    dsimp only at g
    rw [ev_and2] at g
    unfold truR at g
    rw [bnd_assoc] at g
    obtain ⟨d, S1, e1, g1⟩ := got_bnd g
    cases hb : truD d S1 with
    | none => rw [hb] at g1; exact (got_bad g1).elim
    | some b =>
      rw [hb] at g1
      refine ⟨ι, env, S, re, sr, b, S1, by unfold truR; dsimp only; rw [e1, bnd_ok, hb], fun ι1 H1 b' st sr1 hbb => ?_⟩
      subst hbb
      cases b with
      | true => exact ⟨ι1, env, S1, re.step st, sr1, got_step st g1⟩
      | false =>
        dsimp only at g1
        rw [bnd_ok, hb] at g1
        exact got_ok g1 ι1 H1 false st sr1 rfl
theorem sn_Tor (F : Fns) : ∀ (es : Es) (c : Cn) (X : Cx) (xs : List Expr) (pos : Pos), Fits c F X → ckEs c es xs = true → PW X (.BoolOp .Or xs pos) (RdB X.K fun env S => truR (evOr F es env S))
  | .nil, c, X, xs, pos, f, h => by
    refine PW.imp (t := fun _ _ _ => False) ⟨fun _ _ _ _ _ _ _ z => z.elim⟩ fun σ H Q q => ?_
    obtain ⟨ι, env, S, re, sr, g⟩ := q
    dsimp only at g
    rw [evOr] at g
    exact got_bad g
  | .cons e es, c, X, [], pos, f, h => by simp [ckEs] at h
  | .cons e .nil, c, X, x :: y :: xs, pos, f, h => by simp [ckEs] at h
  | .cons e (.cons e' es), c, X, [x], pos, f, h => by simp [ckEs] at h
  | .cons e .nil, c, X, [x], pos, f, h => by
    rw [ckEs, Bool.and_eq_true] at h
    refine PW.imp (pw_or1 (sn_T F e c X x f h.1 (sn_E F e c X x f h.1))) fun σ H Q q => ?_
    obtain ⟨ι, env, S, re, sr, g⟩ := q
    dsimp only at g
    rw [ev_or1] at g
    exact ⟨ι, env, S, re, sr, g⟩
  | .cons e (.cons e' es), c, X, x :: y :: xs, pos, f, h => by
    have h' : ckE c e x = true ∧ ckEs c (.cons e' es) (y :: xs) = true := by
      rw [ckEs, Bool.and_eq_true] at h
      exact h
    refine PW.imp (pw_or (sn_T F e c X x f h'.1 (sn_E F e c X x f h'.1)) (sn_Tor F (.cons e' es) c X (y :: xs) pos f h'.2)) fun σ H Q q => ?_
    obtain ⟨ι, env, S, re, sr, g⟩ := q
    dsimp only at g
    rw [ev_or2] at g
    unfold truR at g
    rw [bnd_assoc] at g
    obtain ⟨d, S1, e1, g1⟩ := got_bnd g
    cases hb : truD d S1 with
    | none => rw [hb] at g1; exact (got_bad g1).elim
    | some b =>
      rw [hb] at g1
      refine ⟨ι, env, S, re, sr, b, S1, by unfold truR; dsimp only; rw [e1, bnd_ok, hb], fun ι1 H1 b' st sr1 hbb => ?_⟩
      subst hbb
      cases b with
      | false => exact ⟨ι1, env, S1, re.step st, sr1, got_step st g1⟩
      | true =>
        dsimp only at g1
        rw [bnd_ok, hb] at g1
        exact got_ok g1 ι1 H1 true st sr1 rfl
end
end
end SX
namespace SX
open PySem PySem.Spec PyProof.Rows L2

/-! ### the checker of statements -/
/-- how a, b = x, y is stored -/
def swp (sc : Scope) (ts vs : List Expr) : Option (Option (List Str)) :=
  if (!(ts.length == 2 || ts.length == 3) || vs.length != ts.length) = true then some none
  else if (vs.any fun | .Starred .. => true | _ => false) = true then some none
  else
    let line := (ts.head?.map (·.pos.line)).getD 0
    let names := ts.filterMap fun
      | .Name id pos => if (sc.names.lookup id == some .local && pos.line == line) = true then some id else none
      | _ => none
    if (names.length != ts.length || names.eraseDups.length != names.length) = true then some none
    else if vs.all (foldedForSure 8) = true then some none
    else if vs.all (constantsAlone 8) = true then none
    else some (some names)
theorem swp_ok {env : PySem.Env} {ts vs : List Expr} {k k2 : Nat} {p p2 : Pos} {r : Option (List Str)} (hk : env.scope.kind = .function) (h : swp env.scope ts vs = some r) :
    swappedStores [.Tuple ts k p] (.Tuple vs k2 p2) env = pure r := by
  have hb : env.blockKind = .function := by unfold Env.blockKind; rw [hk]; rfl
  unfold swp at h
  have e0 : swappedStores [.Tuple ts k p] (.Tuple vs k2 p2) env =
      (if (!(ts.length == 2 || ts.length == 3) || vs.length != ts.length || env.blockKind != .function) = true then (pure none : Sem (Option (List Str)))
       else if (vs.any fun | .Starred .. => true | _ => false) = true then pure none
       else
        let line := (ts.head?.map (·.pos.line)).getD 0
        let names := ts.filterMap fun
          | .Name id pos => if (env.kindOf id == some .local && pos.line == line) = true then some id else none
          | _ => none
        if (names.length != ts.length || names.eraseDups.length != names.length) = true then pure none
        else if vs.all (foldedForSure 8) = true then pure none
        else if vs.all (constantsAlone 8) = true then (do unsupported "assign.tuple-of-constant-expressions:order-of-the-stores"; pure (some names))
        else pure (some names)) := rfl
  rw [e0, hb]
  have e1 : (ScopeKind.function != ScopeKind.function) = false := by decide
  rw [e1, Bool.or_false]
  split at h
  · rename_i c1
    cases h
    rw [if_pos c1]
  · rename_i c1
    rw [if_neg c1]
    split at h
    · rename_i c2
      cases h
      rw [if_pos c2]
    · rename_i c2
      rw [if_neg c2]
      dsimp only at h ⊢
      split at h
      · rename_i c3
        cases h
        exact if_pos c3
      · rename_i c3
        refine (if_neg c3).trans ?_
        split at h
        · rename_i c4
          cases h
          rw [if_pos c4]
        · rename_i c4
          rw [if_neg c4]
          split at h
          · cases h
          · rename_i c5
            cases h
            rw [if_neg c5]
            rfl

def notComp : Expr → Bool
  | .ListComp _ _ _ _ => false
  | .SetComp _ _ _ _ => false
  | .DictComp _ _ _ _ _ => false
  | _ => true
def isName : Expr → Bool
  | .Name _ _ => true
  | _ => false
def parN (c : Cn) : List Nat → List Expr → List Str → Bool
  | [], [], [] => true
  | i :: is, .Name x _ :: es, y :: ys => decide (c.N[i]? = some x) && decide (x = y) && decide (c.sc.names.lookup x = some .local) && parN c is es ys
  | _, _, _ => false
mutual
def ckS (c : Cn) : St → Stmt → Bool
  | .asg t e, s => match s with
    | .Assign [tg] v _ => ckT c t tg && ckE c e v && (match tg, v with
        | .Tuple ts _ _, .Tuple vs _ _ => decide (swp c.sc ts vs = some none)
        | .Tuple _ _ _, v => notComp v
        | _, _ => true)
    | _ => false
  | .par is es, s => match s with
    | .Assign [.Tuple ts _ _] (.Tuple vs _ _) _ => (match swp c.sc ts vs with
        | some (some ns) => parN c is ts ns
        | _ => false) && decide is.Nodup && decide (is.length = 2 ∨ is.length = 3) && ckEs c es vs
    | _ => false
  | .setS o i v, s => match s with
    | .Assign [.Subscript o' i' _] v' _ => ckE c o o' && ckE c i i' && ckE c v v'
    | _ => false
  | .aug i op e, s => match s with
    | .AugAssign (.Name x _) o v _ => decide (c.N[i]? = some x) && locB c.sc x && decide (o = boOp op) && decide (op = .add ∨ op = .sub) && ckE c e v
    | _ => false
  | .augS o i op e, s => match s with
    | .AugAssign (.Subscript o' i' _) p v _ => ckE c o o' && ckE c i i' && decide (p = boOp op) && decide (op = .add ∨ op = .sub) && ckE c e v
    | _ => false
  | .expr e, s => match s with
    | .Expr v _ => ckE c e v && notComp v
    | _ => false
  | .ret e, s => match s with
    | .Return (some v) _ => ckE c e v
    | _ => false
  | .retN, s => match s with
    | .Return none _ => true
    | _ => false
  | .ite k a b, s => match s with
    | .If t x y _ => ckE c k t && ckSs c a x && ckSs c b y
    | _ => false
  | .wh k b, s => match s with
    | .While t x [] _ => ckE c k t && ckSs c b x
    | _ => false
  | .fo t it b, s => match s with
    | .For tg iter x [] _ => ckT c t tg && ckIt c it iter && ckSs c b x
    | _ => false
  | .brk, s => match s with
    | .Break _ => true
    | _ => false
  | .cont, s => match s with
    | .Continue _ => true
    | _ => false
  | .pass, s => match s with
    | .Pass _ => true
    | _ => false
def ckSs (c : Cn) : Ss → List Stmt → Bool
  | .nil, [] => true
  | .cons s ss, x :: xs => ckS c s x && ckSs c ss xs
  | _, _ => false
end
end SX
namespace SX
open PySem PySem.Spec PyProof.Rows L2
noncomputable section
open Classical
variable [Tabs]

def GotS (K : PySem.W.Frag) (ι : List Addr) (H : Hp) (r : Res (Flow × Env)) (E : Ends) : Prop :=
  ∃ fl env' S', r = .ok (fl, env') S' ∧ ∀ ι' H' σ', Step ι H ι' H' → SR K ι' S' H' → REnv K ι' H' env' σ' → match fl with
    | .next => E.nx σ' H'
    | .brk => E.bk σ' H'
    | .cont => E.ct σ' H'
    | .ret d => ∀ v, Rep K ι' H' d v → E.rt v H'
def RdS (K : PySem.W.Frag) (f : Env → Store → Res (Flow × Env)) : TS := fun E σ H => ∃ ι env S, REnv K ι H env σ ∧ SR K ι S H ∧ GotS K ι H (f env S) E
section
variable {K : PySem.W.Frag} {ι ι' : List Addr} {H H' : Hp} {α : Type} {Z : Ends} {env : Env} {σ : L2.St} {S : Store} {F : Fns}
theorem gs_step {r : Res (Flow × Env)} (st : Step ι H ι' H') (g : GotS K ι H r Z) : GotS K ι' H' r Z := by
  obtain ⟨fl, e, S', h1, h⟩ := g
  exact ⟨fl, e, S', h1, fun ι2 H2 σ2 s2 => h ι2 H2 σ2 (st.trans s2)⟩
theorem gs_bnd {r : Res α} {k : α → Store → Res (Flow × Env)} (g : GotS K ι H (r.bnd k) Z) : ∃ c S1, r = .ok c S1 ∧ GotS K ι H (k c S1) Z := by
  obtain ⟨fl, e, S', h1, h⟩ := g
  obtain ⟨c, S1, e1, e2⟩ := bnd_eq_ok h1
  exact ⟨c, S1, e1, fl, e, S', e2, h⟩
theorem gs_bad (g : GotS K ι H .bad Z) : False := by
  obtain ⟨_, _, _, e, _⟩ := g
  cases e
theorem gs_nx {env' : Env} (g : GotS K ι H (.ok (.next, env') S) Z) (s : SR K ι S H) (r : REnv K ι H env' σ) : Z.nx σ H := by
  obtain ⟨_, _, _, e, h⟩ := g
  cases e
  exact h ι H σ Step.refl s r
theorem gs_E {e : E} {k : D → Store → Res (Flow × Env)} (re : REnv K ι H env σ) (s : SR K ι S H) (g : GotS K ι H ((evE F e env S).bnd k) Z)
    {P : VK} (h : ∀ ι1 H1 d v S1, Step ι H ι1 H1 → REnv K ι1 H1 env σ → SR K ι1 S1 H1 → Rep K ι1 H1 d v → GotS K ι1 H1 (k d S1) Z → P v H1) : RdE K F e σ H P := by
  obtain ⟨d, S1, e1, g1⟩ := gs_bnd g
  exact ⟨ι, env, S, re, s, d, S1, e1, fun ι1 H1 v st s1 r => h ι1 H1 d v S1 st (re.step st) s1 r (gs_step st g1)⟩
theorem gs_Es {e : Es} {k : List D → Store → Res (Flow × Env)} (re : REnv K ι H env σ) (s : SR K ι S H) (g : GotS K ι H ((evEs F e env S).bnd k) Z)
    {P : List V → Hp → Prop} (h : ∀ ι1 H1 d v S1, Step ι H ι1 H1 → REnv K ι1 H1 env σ → SR K ι1 S1 H1 → Reps K ι1 H1 d v → GotS K ι1 H1 (k d S1) Z → P v H1) : RdEs K F e σ H P := by
  obtain ⟨d, S1, e1, g1⟩ := gs_bnd g
  exact ⟨ι, env, S, re, s, d, S1, e1, fun ι1 H1 v st s1 r => h ι1 H1 d v S1 st (re.step st) s1 r (gs_step st g1)⟩
theorem gs_B {f : Env → Store → Res Bool} {k : Bool → Store → Res (Flow × Env)} (re : REnv K ι H env σ) (s : SR K ι S H) (g : GotS K ι H ((f env S).bnd k) Z)
    {P : Bool → Hp → Prop} (h : ∀ ι1 H1 b S1, Step ι H ι1 H1 → REnv K ι1 H1 env σ → SR K ι1 S1 H1 → GotS K ι1 H1 (k b S1) Z → P b H1) : RdB K f σ H P := by
  obtain ⟨d, S1, e1, g1⟩ := gs_bnd g
  exact ⟨ι, env, S, re, s, d, S1, e1, fun ι1 H1 v st s1 r => by subst r; exact h ι1 H1 d S1 st (re.step st) s1 (gs_step st g1)⟩
end

/-! ### while -/
theorem whL_ex {c : Env → Store → Res Bool} {b : Env → Store → Res (Flow × Env)} {env : Env} {S : Store} {r : Flow × Env} {S' : Store} (h : whL c b env S = .ok r S') : ∃ n, whN c b n env S = .ok r S' := by
  unfold whL at h
  split at h
  · exact ⟨_, h⟩
  · cases h
theorem wh_read {K : PySem.W.Frag} {F : Fns} {c : E} {b : Ss} {D : Ends} {σ : L2.St} {H : Hp} (h : RdS K (exS F (.wh c b)) D σ H) :
    tWhile (RdB K fun e s => truR (evE F c e s)) (RdS K (exSs F b)) D σ H := by
  obtain ⟨ι, env, S, re, sr, g⟩ := h
  rw [exS] at g
  obtain ⟨fl, env', S', e, q⟩ := g
  obtain ⟨n, en⟩ := whL_ex e
  refine ⟨fun m σ H => ∃ ι env S, REnv K ι H env σ ∧ SR K ι S H ∧ GotS K ι H (whN (fun e s => truR (evE F c e s)) (fun e s => exSs F b e s) m env S) D, ⟨n, ι, env, S, re, sr, fl, env', S', en, q⟩, ?_⟩
  rintro m σ1 H1 ⟨ι1, env1, S1, re1, sr1, g1⟩
  cases m with
  | zero => unfold whN at g1; exact (gs_bad g1).elim
  | succ m =>
    unfold whN at g1
    refine gs_B re1 sr1 g1 fun ι2 H2 k S2 st2 re2 sr2 g2 => ?_
    cases k with
    | false =>
      rw [if_neg Bool.false_ne_true] at g2 ⊢
      exact gs_nx g2 sr2 re2
    | true =>
      rw [if_pos rfl] at g2 ⊢
      refine ⟨fun σ' H' => ∃ ι env S, REnv K ι H' env σ' ∧ SR K ι S H' ∧ GotS K ι H' (whN (fun e s => truR (evE F c e s)) (fun e s => exSs F b e s) m env S) D, fun σ' H' hn => ⟨m, Nat.lt_succ_self m, hn⟩, ι2, env1, S2, re2, sr2, ?_⟩
      obtain ⟨⟨fl2, env2⟩, S3, e3, g3⟩ := gs_bnd g2
      refine ⟨fl2, env2, S3, e3, fun ι4 H4 σ4 st4 sr4 re4 => ?_⟩
      have g4 := gs_step st4 g3
      cases fl2 with
      | next => exact ⟨ι4, env2, S3, re4, sr4, g4⟩
      | cont => exact ⟨ι4, env2, S3, re4, sr4, g4⟩
      | brk => exact gs_nx g4 sr4 re4
      | ret d =>
        intro v r
        obtain ⟨_, _, _, e5, q5⟩ := g4
        cases e5
        exact q5 ι4 H4 σ4 Step.refl sr4 re4 v r

/-! ### for -/
theorem fo_read {K : PySem.W.Frag} {F : Fns} {t : Tg} {it : It} {b : Ss} {D : Ends} {σ : L2.St} {H : Hp} (h : RdS K (exS F (.fo t it b)) D σ H) :
    tFor (RdI K F it) (TgS K t) (RdS K (exSs F b)) D σ H := by
  obtain ⟨ι, env, S, re, sr, g⟩ := h
  rw [exS] at g
  obtain ⟨w, S1, ew, g1⟩ := gs_bnd g
  refine ⟨ι, env, S, w, S1, re, sr, ew, fun ι1 H1 J st1 sr1 wk => ?_⟩
  have re1 := re.step st1
  have g2 := gs_step st1 g1
  let Wi : Nat → L2.St → Hp → Prop := fun i σc Hc => ∃ ιc envc Sc, Step ι1 H1 ιc Hc ∧ REnv K ιc Hc envc σc ∧ SR K ιc Sc Hc ∧ i ≤ w.items.length ∧ GotS K ιc Hc (forL w t (fun e s => exSs F b e s) (w.items.drop i) envc Sc) D
  refine ⟨fun i m σc Hc => m = w.items.length - i ∧ Wi i σc Hc, ⟨w.items.length, by simp, ι1, env, S1, Step.refl, re1, sr1, Nat.zero_le _, by simpa using g2⟩, ?_⟩
  rintro i m σc Hc ⟨rfl, ιc, envc, Sc, stc, rec_, src, hi, gL⟩
  by_cases hlt : i < w.items.length
  · refine .inr ?_
    rw [List.drop_eq_getElem_cons hlt] at gL
    unfold forL at gL
    split at gL
    · rename_i here
      split at gL
      · rename_i env1 e1
        refine ⟨wk.go i ιc Hc Sc stc.toMono src here hlt, Wi (i + 1), fun σ' H' hw => ⟨w.items.length - (i + 1), by omega, rfl, hw⟩, fun x Hy hy => ?_⟩
        obtain ⟨rd, sty, sry⟩ := wk.yld i ιc Hc Sc x Hy w.items[i] stc.toMono src here (List.getElem?_eq_getElem hlt) hy
        refine ⟨ιc, Sc, envc, w.items[i], env1, rec_.step sty, sry, rd, e1, fun σ1 re2 _ => ⟨ιc, env1, Sc, re2, sry, ?_⟩⟩
        obtain ⟨⟨fl2, env2⟩, S3, e3, g3⟩ := gs_bnd (gs_step sty gL)
        refine ⟨fl2, env2, S3, e3, fun ι4 H4 σ4 st4 sr4 re4 => ?_⟩
        have g4 := gs_step st4 g3
        cases fl2 with
        | next => exact ⟨ι4, env2, S3, (stc.trans sty).trans st4, re4, sr4, hlt, g4⟩
        | cont => exact ⟨ι4, env2, S3, (stc.trans sty).trans st4, re4, sr4, hlt, g4⟩
        | brk => exact gs_nx g4 sr4 re4
        | ret d =>
          intro v r
          obtain ⟨_, _, _, e5, q5⟩ := g4
          cases e5
          exact q5 ι4 H4 σ4 Step.refl sr4 re4 v r
      · exact (gs_bad gL).elim
    · exact (gs_bad gL).elim
  · have hi2 : i = w.items.length := by omega
    subst hi2
    rw [List.drop_length] at gL
    unfold forL at gL
    split at gL
    · rename_i here
      exact .inl ⟨wk.stop _ ιc Hc _ stc.toMono src here (Nat.le_refl _), gs_nx gL src rec_⟩
    · exact (gs_bad gL).elim

/-! ### a, b = x, y -/
theorem parN_len {c : Cn} : ∀ {is : List Nat} {es : List Expr} {ns : List Str}, parN c is es ns = true → es.length = is.length ∧ ns.length = is.length
  | [], [], [], _ => ⟨rfl, rfl⟩
  | i :: is, e :: es, y :: ys, h => by
    cases e <;> first | (simp [parN] at h; done) | skip
    rw [parN] at h
    simp only [Bool.and_eq_true] at h
    obtain ⟨h1, h2⟩ := parN_len h.2
    exact ⟨by rw [List.length_cons, List.length_cons, h1], by rw [List.length_cons, List.length_cons, h2]⟩
  | [], [], _ :: _, h => by simp [parN] at h
  | [], _ :: _, _, h => by simp [parN] at h
  | _ :: _, [], _, h => by simp [parN] at h
  | _ :: _, e :: _, [], h => by cases e <;> simp [parN] at h
theorem parN_cons {c : Cn} {i : Nat} {is : List Nat} {es : List Expr} {ns : List Str} (h : parN c (i :: is) es ns = true) :
    ∃ x p es' ns', es = .Name x p :: es' ∧ ns = x :: ns' ∧ c.N[i]? = some x ∧ c.sc.names.lookup x = some .local ∧ parN c is es' ns' = true := by
  cases es with
  | nil => simp [parN] at h
  | cons e es =>
    cases ns with
    | nil => cases e <;> simp [parN] at h
    | cons y ys =>
      cases e <;> first | (simp [parN] at h; done) | skip
      rw [parN] at h
      simp only [Bool.and_eq_true, decide_eq_true_eq] at h
      obtain ⟨⟨⟨h1, rfl⟩, h3⟩, h4⟩ := h
      exact ⟨_, _, es, ys, rfl, rfl, h1, h3, h4⟩
theorem parN_nil {c : Cn} {es : List Expr} {ns : List Str} (h : parN c [] es ns = true) : es = [] ∧ ns = [] := by
  cases es with
  | nil => cases ns with
    | nil => exact ⟨rfl, rfl⟩
    | cons _ _ => simp [parN] at h
  | cons _ _ => simp [parN] at h
end
end SX
namespace SX
open PySem PySem.Spec PyProof.Rows L2
noncomputable section
open Classical
variable [Tabs]

structure FitsS (c : Cn) (F : Fns) (X : Cx) : Prop where
  fits : Fits c F X
  fn : ∀ x, X.fn x = true
  kind : X.env.scope.kind = .function
theorem swaps_not {e : Expr} {o : Option Expr} {l : Nat} {env : PySem.Env} (h : notComp e = true) : swapsWith e o l env = pure false := by
  cases e <;> first | rfl | cases h
theorem swaps_sub {e o i : Expr} {p : Pos} {l : Nat} {env : PySem.Env} : swapsWithSole [.Subscript o i p] e l env = pure false := by
  cases e <;> rfl
theorem stores_sub {e o i : Expr} {p : Pos} {env : PySem.Env} : swappedStores [.Subscript o i p] e env = pure none := by
  cases e <;> rfl
/-- o[i] = v : the target's tree -/
theorem assign_sub {c : Cn} {e : E} {o i : Expr} {pos : Pos} {env : PySem.Env} (h : ckE c e i = true) : ∀ v, assign (.Subscript o i pos) env v = (do
      let ov ← holding [v] (eval o env)
      let iv ← holding [v, ov] (eval i env)
      standAt pos
      holding [v, ov, iv] (setItem ov iv v)
      release [v, ov, iv] []) := by
  intro v
  cases i <;> first | rfl | (cases e <;> simp [ckE] at h)
/-- name = value -/
theorem sn_set {F : Fns} {i : Nat} {e : E} {c : Cn} {X : Cx} {x : Str} {p pos : Pos} {v : Expr} (f : FitsS c F X) (h1 : ckT c (.nm i) (.Name x p) = true) (h2 : ckE c e v = true) :
    PS X (.Assign [.Name x p] v pos) (RdS X.K (exS F (.asg (.nm i) e))) := by
  have h1' := h1
  rw [ckT] at h1
  rw [Bool.and_eq_true, decide_eq_true_eq] at h1
  have hN : X.N.Nodup := by rw [f.fits.N]; exact f.fits.nd
  have hi : X.N[i]? = some x := by rw [f.fits.N]; exact h1.1
  have hx : Loc X.env.scope x := by rw [f.fits.sc]; exact loc_of h1.2
  have rd : ∀ D σ H, RdS X.K (exS F (.asg (.nm i) e)) D σ H → RdE X.K F e σ H fun v H1 => gName i v σ H1 D.nx := fun D σ H q => by
    obtain ⟨ι, env, S, re, sr, g⟩ := q
    rw [exS] at g
    refine gs_E re sr g fun ι1 H1 d v S1 st re1 sr1 r g1 => ?_
    rw [asgT] at g1
    exact gs_nx g1 sr1 (re1.set r)
  by_cases hc : notComp v = true
  · exact PS.imp (ps_set hN hi hx (sn_E F e c X v f.fits h2) (swaps_not hc) (.inl (f.fn x))) rd
  · cases v with
    | ListComp el gens scope vp =>
      by_cases hs : (X.env.blockKind == .function && X.env.kindOf x == some .local && p.line == vp.line && !(scope.names.any fun (n, k) => n == x && (k == .local || k == .cell))) = true
      · cases e <;> first | (simp [ckE] at h2; done) | skip
        case lc elt t it cs own =>
          have h2' := h2
          unfold ckE at h2
          split at h2
          · rename_i el' tg iter ifs as scope' pos' heq
            cases heq
            simp only [Bool.and_eq_true, decide_eq_true_eq] at h2
            obtain ⟨⟨⟨⟨⟨⟨⟨⟨rfl, g1⟩, g2⟩, g3⟩, g4⟩, g5⟩, g6⟩, g7⟩, g8⟩ := h2
            obtain ⟨ok, hg, hsl⟩ := lc_ok t own c X tg scope f.fits g2 g3 g4 g5
            have hi2 : PI X tg iter (RdI X.K F it) := sn_It F it c X tg iter f.fits g1
            have ht : ∀ (s : Shared) (H : Hp) (C : Addr) (cl : List (Str × Addr)) (fp : List Addr), PTs (X.blk s H scope (compEnvC scope cl C X.env) fp) ifs (RdB X.K fun e s => evTs F cs e s) := fun s H C cl fp => sn_Ts F cs _ _ ifs (f.fits.blk s H scope C cl fp) g6 g7
            have he : ∀ (s : Shared) (H : Hp) (C : Addr) (cl : List (Str × Addr)) (fp : List Addr), PE (X.blk s H scope (compEnvC scope cl C X.env) fp) el (RdE X.K F elt) := fun s H C cl fp => sn_E F elt _ _ el (f.fits.blk s H scope C cl fp) g8
            have hown : (ownP c.N own).map (·.2) = own := by unfold ownP; rw [List.map_map]; exact List.map_id' own
            have hs' := hs
            simp only [Bool.and_eq_true, beq_iff_eq] at hs'
            have := ps_setLc (spos := pos) (py := p) f.fits.calm hN hi hs'.1.1.2 (show swapsWith (.ListComp el [⟨tg, iter, ifs, 0⟩] scope vp) (some (.Name x p)) pos.line X.env = pure true from (by
              show (pure (X.env.blockKind == .function && X.env.kindOf x == some .local && p.line == vp.line && !(scope.names.any fun (n, k) => n == x && (k == .local || k == .cell))) : Sem Bool) = pure true
              rw [hs])) hi2 ok hg ht he (ckIt_fold g1 X.env)
            rw [hown] at this
            refine PS.imp this fun D σ H q => ?_
            exact lc_read hsl (rd D σ H q)
          · cases h2
        case lc2 elt t it cs own t1 it1 cs1 own1 =>
          have h2' := h2
          unfold ckE at h2
          split at h2
          · rename_i el' tg iter ifs as tg1 iter1 ifs1 as1 scope' pos' heq
            cases heq
            simp only [Bool.and_eq_true, decide_eq_true_eq] at h2
            obtain ⟨⟨⟨⟨⟨⟨⟨⟨⟨⟨⟨⟨⟨⟨⟨rfl, rfl⟩, g1⟩, g2⟩, g3⟩, g4⟩, k1⟩, k2⟩, g5⟩, g6⟩, g7⟩, k3⟩, k4⟩, k5⟩, k6⟩, g8⟩ := h2
            obtain ⟨ok, hg, hsl⟩ := lc_ok t own c X tg scope f.fits g2 g3 g4 g5
            have kk : (slotsT t1).all (fun i => own.contains i) = true := List.all_eq_true.mpr fun i hi => List.all_eq_true.mp k2 i (slots_own k1 i hi)
            obtain ⟨_, hg1, _⟩ := lc_ok t1 own c X tg1 scope f.fits g2 kk g4 k4
            have ht : ∀ (s : Shared) (H : Hp) (C : Addr) (cl : List (Str × Addr)) (fp : List Addr), PTs (X.blk s H scope (compEnvC scope cl C X.env) fp) ifs (RdB X.K fun e s => evTs F cs e s) := fun s H C cl fp => sn_Ts F cs _ _ ifs (f.fits.blk s H scope C cl fp) g6 g7
            have ht1 : ∀ (s : Shared) (H : Hp) (C : Addr) (cl : List (Str × Addr)) (fp : List Addr), PTs (X.blk s H scope (compEnvC scope cl C X.env) fp) ifs1 (RdB X.K fun e s => evTs F cs1 e s) := fun s H C cl fp => sn_Ts F cs1 _ _ ifs1 (f.fits.blk s H scope C cl fp) k5 k6
            have hi1 : ∀ (s : Shared) (H : Hp) (C : Addr) (cl : List (Str × Addr)) (fp : List Addr), PI (X.blk s H scope (compEnvC scope cl C X.env) fp) tg1 iter1 (RdI X.K F it1) := fun s H C cl fp => sn_It F it1 _ _ tg1 iter1 (f.fits.blk s H scope C cl fp) k3
            have he : ∀ (s : Shared) (H : Hp) (C : Addr) (cl : List (Str × Addr)) (fp : List Addr), PE (X.blk s H scope (compEnvC scope cl C X.env) fp) el (RdE X.K F elt) := fun s H C cl fp => sn_E F elt _ _ el (f.fits.blk s H scope C cl fp) g8
            have hs' := hs
            simp only [Bool.and_eq_true, beq_iff_eq] at hs'
            have := ps_setLc2 (spos := pos) (py := p) (vs1 := own1) f.fits.calm hN hi hs'.1.1.2 (show swapsWith (.ListComp el [⟨tg, iter, ifs, 0⟩, ⟨tg1, iter1, ifs1, 0⟩] scope vp) (some (.Name x p)) pos.line X.env = pure true from (by
              show (pure (X.env.blockKind == .function && X.env.kindOf x == some .local && p.line == vp.line && !(scope.names.any fun (n, k) => n == x && (k == .local || k == .cell))) : Sem Bool) = pure true
              rw [hs])) (sn_It F it c X tg iter f.fits g1) ok (by rw [own_map]; exact fun i hi => by simpa using List.all_eq_true.mp k2 i hi) hg ht hi1 hg1 ht1 he (ckIt_fold g1 X.env) (fun env => ckIt_fold k3 env)
            rw [own_map] at this
            refine PS.imp this fun D σ H q => ?_
            exact lc2_read hsl (slots_own k1) (rd D σ H q)
          · cases h2
      · refine PS.imp (ps_set hN hi hx (sn_E F e c X _ f.fits h2) (show swapsWith (.ListComp el gens scope vp) (some (.Name x p)) pos.line X.env = pure false from (by
            show (pure (X.env.blockKind == .function && X.env.kindOf x == some .local && p.line == vp.line && !(scope.names.any fun (n, k) => n == x && (k == .local || k == .cell))) : Sem Bool) = pure false
            rw [Bool.not_eq_true] at hs
            rw [hs])) (.inl (f.fn x))) rd
    | SetComp _ _ _ _ => cases e <;> simp [ckE] at h2
    | DictComp _ _ _ _ _ => cases e <;> simp [ckE] at h2
    | _ => exact absurd rfl hc
theorem reps3 {K : PySem.W.Frag} {ι : List Addr} {H : Hp} {d e g : D} {xs : List V} (r : Reps K ι H [d, e, g] xs) : ∃ x y z, xs = [x, y, z] ∧ Rep K ι H d x ∧ Rep K ι H e y ∧ Rep K ι H g z := by
  obtain ⟨v, w, rfl, h1, h2⟩ := r.uncons
  obtain ⟨y, z, rfl, h3, h4⟩ := reps2 h2
  exact ⟨v, y, z, rfl, h1, h3, h4⟩
theorem sn_par {F : Fns} {is : List Nat} {es : Es} {c : Cn} {X : Cx} {ts vs : List Expr} {k k2 : Nat} {p p2 pos : Pos} {ns : List Str} (f : FitsS c F X) (h0 : swp c.sc ts vs = some (some ns)) (h1 : parN c is ts ns = true) (h2 : is.Nodup) (h3 : is.length = 2 ∨ is.length = 3)
    (h4 : ckEs c es vs = true) : PS X (.Assign [.Tuple ts k p] (.Tuple vs k2 p2) pos) (RdS X.K (exS F (.par is es))) := by
  have hN : X.N.Nodup := by rw [f.fits.N]; exact f.fits.nd
  have hw : swappedStores [.Tuple ts k p] (.Tuple vs k2 p2) X.env = pure (some ns) := swp_ok f.kind (by rw [f.fits.sc]; exact h0)
  have pa := sn_Es F es c X vs f.fits h4
  have lv : vs.length = ts.length := by
    unfold swp at h0
    split at h0
    · cases h0
    · rename_i c1
      simp only [Bool.not_eq_true, Bool.or_eq_false_iff, bne_eq_false_iff_eq] at c1
      exact c1.2
  have lt := (parN_len h1).1
  rcases h3 with h3 | h3
  · obtain ⟨i, j, rfl⟩ : ∃ i j, is = [i, j] := by
      match is, h3 with
      | [i, j], _ => exact ⟨i, j, rfl⟩
    obtain ⟨x, px, ts1, ns1, rfl, rfl, a1, a2, h1⟩ := parN_cons h1
    obtain ⟨y, py, ts2, ns2, rfl, rfl, b1, b2, h1⟩ := parN_cons h1
    obtain ⟨rfl, rfl⟩ := parN_nil h1
    obtain ⟨a, b, rfl⟩ : ∃ a b, vs = [a, b] := by
      match vs, lv with
      | [a, b], _ => exact ⟨a, b, rfl⟩
    have hij : i ≠ j := by
      intro e
      subst e
      simp at h2
    refine PS.imp (ps_par f.fits.calm hN (by rw [f.fits.N]; exact a1) (by rw [f.fits.N]; exact b1) hij (by rw [f.fits.sc]; exact a2) (by rw [f.fits.sc]; exact b2) pa hw) fun D σ H q => ?_
    obtain ⟨ι, env, S, re, sr, g⟩ := q
    rw [exS] at g
    refine gs_Es re sr g fun ι1 H1 ds vs S1 st re1 sr1 r g1 => ?_
    split at g1
    · rename_i env1 e1
      match ds, e1 with
      | [d1, d2], e1 =>
        obtain ⟨v, w, rfl, r1, r2⟩ := reps2 r
        simp only [setAll] at e1
        cases e1
        exact ⟨v, w, rfl, gs_nx g1 sr1 ((re1.set r1).set r2)⟩
      | [], e1 => simp [setAll] at e1
      | [_], e1 => simp [setAll] at e1
      | _ :: _ :: _ :: _, e1 => simp [setAll] at e1
    · exact (gs_bad g1).elim
  · obtain ⟨i, j, l, rfl⟩ : ∃ i j l, is = [i, j, l] := by
      match is, h3 with
      | [i, j, l], _ => exact ⟨i, j, l, rfl⟩
    obtain ⟨x, px, ts1, ns1, rfl, rfl, a1, a2, h1⟩ := parN_cons h1
    obtain ⟨y, py, ts2, ns2, rfl, rfl, b1, b2, h1⟩ := parN_cons h1
    obtain ⟨z, pz, ts3, ns3, rfl, rfl, c1, c2, h1⟩ := parN_cons h1
    obtain ⟨rfl, rfl⟩ := parN_nil h1
    obtain ⟨a, b, u, rfl⟩ : ∃ a b u, vs = [a, b, u] := by
      match vs, lv with
      | [a, b, u], _ => exact ⟨a, b, u, rfl⟩
    simp only [List.nodup_cons, List.mem_cons, not_or, List.not_mem_nil, not_false_eq_true, and_true] at h2
    refine PS.imp (ps_par3 f.fits.calm hN (by rw [f.fits.N]; exact a1) (by rw [f.fits.N]; exact b1) (by rw [f.fits.N]; exact c1) h2.1.1 h2.1.2 h2.2.1 (by rw [f.fits.sc]; exact a2) (by rw [f.fits.sc]; exact b2) (by rw [f.fits.sc]; exact c2) pa hw) fun D σ H q => ?_
    obtain ⟨ι, env, S, re, sr, g⟩ := q
    rw [exS] at g
    refine gs_Es re sr g fun ι1 H1 ds vs S1 st re1 sr1 r g1 => ?_
    split at g1
    · rename_i env1 e1
      match ds, e1 with
      | [d1, d2, d3], e1 =>
        obtain ⟨v, w, q, rfl, r1, r2, r3⟩ := reps3 r
        simp only [setAll] at e1
        cases e1
        exact ⟨v, w, q, rfl, gs_nx g1 sr1 (((re1.set r1).set r2).set r3)⟩
      | [], e1 => simp [setAll] at e1
      | [_], e1 => simp [setAll] at e1
      | [_, _], e1 => simp [setAll] at e1
      | _ :: _ :: _ :: _ :: _, e1 => simp [setAll] at e1
    · exact (gs_bad g1).elim

mutual
theorem sn_S (F : Fns) : ∀ (s : St) (c : Cn) (X : Cx) (x : Stmt), FitsS c F X → ckS c s x = true → PS X x (RdS X.K (exS F s))
  | .asg t e, c, X, x, f, h => by
    unfold ckS at h
    split at h
    · rename_i tg v pos
      simp only [Bool.and_eq_true] at h
      obtain ⟨⟨h1, h2⟩, h3⟩ := h
      cases t with
      | nm i =>
        have h1' := h1
        unfold ckT at h1'
        split at h1'
        · exact sn_set f h1 h2
        · cases h1'
      | tp ts =>
        have h1' := h1
        unfold ckT at h1'
        split at h1'
        · rename_i es k p
          have hg := pg_T f.fits.calm f.fits.N f.fits.nd f.fits.sc (.tp ts) _ h1 fun i _ x _ => .inl (f.fn x)
          have hst : swappedStores [.Tuple es k p] v X.env = pure none := by
            cases v with
            | Tuple vs k2 p2 => exact swp_ok f.kind (by rw [f.fits.sc]; exact of_decide_eq_true h3)
            | _ => rfl
          have hc : notComp v = true := by
            cases v <;> first | rfl | exact h3
          refine PS.imp (ps_asg (sn_E F e c X v f.fits h2) hg (by cases v <;> first | rfl | cases hc) hst) fun D σ H q => ?_
          obtain ⟨ι, env, S, re, sr, g⟩ := q
          rw [exS] at g
          refine gs_E re sr g fun ι1 H1 d v S1 st re1 sr1 r g1 => ?_
          split at g1
          · rename_i env1 e1
            exact ⟨ι1, S1, env, d, env1, re1, sr1, r, e1, fun σ' re' _ => gs_nx g1 sr1 re'⟩
          · exact (gs_bad g1).elim
        · cases h1'
    · cases h
  | .par is es, c, X, x, f, h => by
    unfold ckS at h
    split at h
    · simp only [Bool.and_eq_true, decide_eq_true_eq] at h
      obtain ⟨⟨⟨h1, h2⟩, h3⟩, h4⟩ := h
      split at h1
      · rename_i ns e0
        exact sn_par f e0 h1 h2 h3 h4
      · cases h1
    · cases h
  | .setS o i v, c, X, x, f, h => by
    unfold ckS at h
    split at h
    · simp only [Bool.and_eq_true] at h
      obtain ⟨⟨h1, h2⟩, h3⟩ := h
      refine PS.imp (ps_asg (sn_E F v c X _ f.fits h3) (pg_sub (sn_E F o c X _ f.fits h1) (sn_E F i c X _ f.fits h2) set_S (assign_sub h2)) swaps_sub stores_sub) fun D σ H q => ?_
      obtain ⟨ι, env, S, re, sr, g⟩ := q
      rw [exS] at g
      refine gs_E re sr g fun ι1 H1 d1 v1 S1 st1 re1 sr1 r1 g1 => ?_
      refine gs_E re1 sr1 g1 fun ι2 H2 d2 v2 S2 st2 re2 sr2 r2 g2 => ?_
      refine gs_E re2 sr2 g2 fun ι3 H3 d3 v3 S3 st3 re3 sr3 r3 g3 => ?_
      obtain ⟨u, S4, e4, g4⟩ := gs_bnd g3
      refine ⟨ι3, S3, d2, d3, d1, sr3, Rep.step st3 _ _ r2, r3, Rep.step (st2.trans st3) _ _ r1, u, S4, e4, fun ι4 H4 _ st4 sr4 _ => ?_⟩
      exact gs_nx (gs_step st4 g4) sr4 (re3.step st4)
    · cases h
  | .augS o i op e, c, X, x, f, h => by
    unfold ckS at h
    split at h
    · rename_i o' i' tp p v pos
      simp only [Bool.and_eq_true, decide_eq_true_eq] at h
      obtain ⟨⟨⟨⟨h1, h2⟩, rfl⟩, h4⟩, h5⟩ := h
      have ha : ∀ ov iv new, augStore i' ov iv new = (do holding [new, ov, iv] (setItem ov iv new); release [new, ov, iv] []; pure .next) := by
        intro ov iv new
        cases i' <;> first | rfl | (cases i <;> simp [ckE] at h2)
      have rd : ∀ (fn : Int → Int → Int), (∀ x y z, augD op x y = some z → ∃ a b, x = .int a ∧ y = .int b ∧ z = .int (fn a b)) → ∀ D σ H, RdS X.K (exS F (.augS o i op e)) D σ H →
          tAugS (RdE X.K F o) (RdE X.K F i) (RdE X.K F e) (fun x y H Q => ∃ ι S a b, SR X.K ι S H ∧ Rep X.K ι H a x ∧ Rep X.K ι H b y ∧ (∃ l, a = .loc l) ∧ Got X.K ι H (idxD a b S) (Rep X.K) Q) (ipI fn) (SetS X.K) D σ H := fun fn hop D σ H q => by
        obtain ⟨ι, env, S, re, sr, g⟩ := q
        rw [exS] at g
        refine gs_E re sr g fun ι1 H1 d1 v1 S1 st1 re1 sr1 r1 g1 => ?_
        refine gs_E re1 sr1 g1 fun ι2 H2 d2 v2 S2 st2 re2 sr2 r2 g2 => ?_
        obtain ⟨d3, S3, e3, g3⟩ := gs_bnd g2
        unfold idxM at e3
        split at e3
        · rename_i l
          refine ⟨ι2, S2, .loc l, d2, sr2, Rep.step st2 _ _ r1, r2, ⟨l, rfl⟩, d3, S3, e3, fun ι3 H3 v3 st3 sr3 r3 => ?_⟩
          refine gs_E (re2.step st3) sr3 (gs_step st3 g3) fun ι5 H5 d5 v5 S5 st5 re5 sr5 r5 g5 => ?_
          split at g5
          · rename_i z ez
            obtain ⟨a, b, rfl, rfl, rfl⟩ := hop _ _ _ ez
            refine ⟨a, b, rep_int (Rep.step st5 _ _ r3), rep_int r5, ?_⟩
            obtain ⟨u, S6, e6, g6⟩ := gs_bnd g5
            have st35 := st3.trans st5
            refine ⟨ι5, S5, .loc l, d2, _, sr5, Rep.step (st2.trans st35) _ _ r1, Rep.step st35 _ _ r2, to_int _, (), S6, e6, fun ι6 H6 _ st6 sr6 _ => ?_⟩
            exact gs_nx (gs_step st6 g6) sr6 (re5.step st6)
          · exact (gs_bad g5).elim
        · cases e3
      rcases h4 with rfl | rfl
      · exact PS.imp (ps_augS (sn_E F o c X o' f.fits h1) (sn_E F i c X i' f.fits h2) get_S (sn_E F e c X v f.fits h5) ip_add set_S ha) (rd _ fun x y z hz => by
          unfold augD at hz
          split at hz <;> cases hz
          · exact ⟨_, _, rfl, rfl, rfl⟩
          · rename_i hp; cases hp)
      · exact PS.imp (ps_augS (sn_E F o c X o' f.fits h1) (sn_E F i c X i' f.fits h2) get_S (sn_E F e c X v f.fits h5) ip_sub set_S ha) (rd _ fun x y z hz => by
          unfold augD at hz
          split at hz <;> cases hz
          · rename_i hp; cases hp
          · exact ⟨_, _, rfl, rfl, rfl⟩)
    · cases h
  | .aug i op e, c, X, x, f, h => by
    unfold ckS at h
    split at h
    · rename_i y p o v pos
      simp only [Bool.and_eq_true, decide_eq_true_eq] at h
      obtain ⟨⟨⟨⟨h1, h2⟩, rfl⟩, h4⟩, h5⟩ := h
      have hN : X.N.Nodup := by rw [f.fits.N]; exact f.fits.nd
      have hi : X.N[i]? = some y := by rw [f.fits.N]; exact h1
      have hx : Loc X.env.scope y := by rw [f.fits.sc]; exact loc_of h2
      have rd : ∀ (fn : Int → Int → Int), (∀ x y z, augD op x y = some z → ∃ a b, x = .int a ∧ y = .int b ∧ z = .int (fn a b)) → ∀ D σ H, RdS X.K (exS F (.aug i op e)) D σ H → tAug i (RdE X.K F e) (ipI fn) D σ H := fun fn hop D σ H q => by
        obtain ⟨ι, env, S, re, sr, g⟩ := q
        rw [exS] at g
        split at g
        · rename_i d ed
          obtain ⟨w, ew, hw⟩ := re.2 i d ed
          refine ⟨w, ew, ?_⟩
          refine gs_E re sr g fun ι1 H1 d1 v1 S1 st1 re1 sr1 r1 g1 => ?_
          split at g1
          · rename_i z ez
            obtain ⟨a, b, rfl, rfl, rfl⟩ := hop _ _ _ ez
            exact ⟨a, b, rep_int hw, rep_int r1, gs_nx g1 sr1 (re1.set (to_int _))⟩
          · exact (gs_bad g1).elim
        · exact (gs_bad g).elim
      rcases h4 with rfl | rfl
      · exact PS.imp (ps_aug hN hi hx (sn_E F e c X v f.fits h5) ip_add (.inl (f.fn y))) (rd _ fun x y z hz => by
          unfold augD at hz
          split at hz <;> cases hz
          · exact ⟨_, _, rfl, rfl, rfl⟩
          · rename_i hp; cases hp)
      · exact PS.imp (ps_aug hN hi hx (sn_E F e c X v f.fits h5) ip_sub (.inl (f.fn y))) (rd _ fun x y z hz => by
          unfold augD at hz
          split at hz <;> cases hz
          · rename_i hp; cases hp
          · exact ⟨_, _, rfl, rfl, rfl⟩)
    · cases h
  | .expr e, c, X, x, f, h => by
    unfold ckS at h
    split at h
    · simp only [Bool.and_eq_true] at h
      refine PS.imp (ps_expr (sn_E F e c X _ f.fits h.1) (swaps_not h.2)) fun D σ H q => ?_
      obtain ⟨ι, env, S, re, sr, g⟩ := q
      rw [exS] at g
      exact gs_E re sr g fun ι1 H1 d1 v1 S1 st1 re1 sr1 r1 g1 => gs_nx g1 sr1 re1
    · cases h
  | .ret e, c, X, x, f, h => by
    unfold ckS at h
    split at h
    · refine PS.imp (ps_ret (sn_E F e c X _ f.fits h)) fun D σ H q => ?_
      obtain ⟨ι, env, S, re, sr, g⟩ := q
      rw [exS] at g
      refine gs_E re sr g fun ι1 H1 d1 v1 S1 st1 re1 sr1 r1 g1 => ?_
      obtain ⟨_, _, _, e5, q5⟩ := g1
      cases e5
      exact q5 ι1 H1 σ Step.refl sr1 re1 v1 r1
    · cases h
  | .retN, c, X, x, f, h => by
    unfold ckS at h
    split at h
    · refine PS.imp ps_retN fun D σ H q => ?_
      obtain ⟨ι, env, S, re, sr, g⟩ := q
      rw [exS] at g
      obtain ⟨_, _, _, e5, q5⟩ := g
      cases e5
      exact q5 ι H σ Step.refl sr re _ to_non
    · cases h
  | .ite k a b, c, X, x, f, h => by
    unfold ckS at h
    split at h
    · simp only [Bool.and_eq_true] at h
      obtain ⟨⟨h1, h2⟩, h3⟩ := h
      refine PS.imp (ps_if (sn_T F k c X _ f.fits h1 (sn_E F k c X _ f.fits h1)) (sn_Ss F a c X _ f h2) (sn_Ss F b c X _ f h3)) fun D σ H q => ?_
      obtain ⟨ι, env, S, re, sr, g⟩ := q
      rw [exS] at g
      refine gs_B (f := fun env S => truR (evE F k env S)) re sr g fun ι1 H1 b S1 st1 re1 sr1 g1 => ?_
      cases b with
      | true => exact ⟨ι1, env, S1, re1, sr1, g1⟩
      | false => exact ⟨ι1, env, S1, re1, sr1, g1⟩
    · cases h
  | .wh k b, c, X, x, f, h => by
    unfold ckS at h
    split at h
    · simp only [Bool.and_eq_true] at h
      exact PS.imp (ps_while (by rw [f.fits.xe]; exact PassesOwn.never) (sn_T F k c X _ f.fits h.1 (sn_E F k c X _ f.fits h.1)) (sn_Ss F b c X _ f h.2)) fun D σ H q => wh_read q
    · cases h
  | .fo t it b, c, X, x, f, h => by
    unfold ckS at h
    split at h
    · simp only [Bool.and_eq_true] at h
      obtain ⟨⟨h1, h2⟩, h3⟩ := h
      exact PS.imp (ps_for (by rw [f.fits.xe]; exact PassesOwn.never) f.fits.calm (sn_It F it c X _ _ f.fits h2) (pg_T f.fits.calm f.fits.N f.fits.nd f.fits.sc t _ h1 fun i _ x _ => .inl (f.fn x)) (sn_Ss F b c X _ f h3) (ckIt_fold h2 X.env)) fun D σ H q => fo_read q
    · cases h
  | .brk, c, X, x, f, h => by
    unfold ckS at h
    split at h
    · refine PS.imp ps_break fun D σ H q => ?_
      obtain ⟨ι, env, S, re, sr, g⟩ := q
      rw [exS] at g
      obtain ⟨_, _, _, e5, q5⟩ := g
      cases e5
      exact q5 ι H σ Step.refl sr re
    · cases h
  | .cont, c, X, x, f, h => by
    unfold ckS at h
    split at h
    · refine PS.imp ps_continue fun D σ H q => ?_
      obtain ⟨ι, env, S, re, sr, g⟩ := q
      rw [exS] at g
      obtain ⟨_, _, _, e5, q5⟩ := g
      cases e5
      exact q5 ι H σ Step.refl sr re
    · cases h
  | .pass, c, X, x, f, h => by
    unfold ckS at h
    split at h
    · refine PS.imp ps_pass fun D σ H q => ?_
      obtain ⟨ι, env, S, re, sr, g⟩ := q
      rw [exS] at g
      exact gs_nx g sr re
    · cases h
theorem sn_Ss (F : Fns) : ∀ (ss : Ss) (c : Cn) (X : Cx) (xs : List Stmt), FitsS c F X → ckSs c ss xs = true → PSs X xs (RdS X.K (exSs F ss))
  | .nil, c, X, [], f, h => by
    refine PSs.imp pss_nil fun D σ H q => ?_
    obtain ⟨ι, env, S, re, sr, g⟩ := q
    rw [exSs] at g
    exact gs_nx g sr re
  | .nil, c, X, _ :: _, f, h => by simp [ckSs] at h
  | .cons _ _, c, X, [], f, h => by simp [ckSs] at h
  | .cons s ss, c, X, x :: xs, f, h => by
    rw [ckSs, Bool.and_eq_true] at h
    refine PSs.imp (pss_cons (sn_S F s c X x f h.1) (sn_Ss F ss c X xs f h.2)) fun D σ H q => ?_
    obtain ⟨ι, env, S, re, sr, g⟩ := q
    rw [exSs] at g
    obtain ⟨⟨fl, env1⟩, S1, e1, g1⟩ := gs_bnd g
    refine ⟨ι, env, S, re, sr, fl, env1, S1, e1, fun ι1 H1 σ1 st sr1 re1 => ?_⟩
    have g2 := gs_step st g1
    cases fl with
    | next => exact ⟨ι1, env1, S1, re1, sr1, g2⟩
    | brk =>
      obtain ⟨_, _, _, e5, q5⟩ := g2
      cases e5
      exact q5 ι1 H1 σ1 Step.refl sr1 re1
    | cont =>
      obtain ⟨_, _, _, e5, q5⟩ := g2
      cases e5
      exact q5 ι1 H1 σ1 Step.refl sr1 re1
    | ret d =>
      obtain ⟨_, _, _, e5, q5⟩ := g2
      cases e5
      exact q5 ι1 H1 σ1 Step.refl sr1 re1
end
end
end SX
namespace SX
open PySem PySem.Spec PyProof.Rows L2

structure Def where
  name : Str
  qual : Str
  st : Stmt
  N : List Str
  ps : List Str
  fd : Fd
  g : Bool
abbrev Kws := List (Nat × Nat × List Str × List Nat)
abbrev Cos := List (Str × Cst)
def cnOf (T : List Def) (bl : List Str) (kw : Kws) (co : Cos) (d : Def) : Cn := ⟨d.N, defScope d.st, bl, T.length, fun f => (T[f]?.map (·.name)).getD "", kw, co, d.g⟩
def okDef (T : List Def) (bl : List Str) (kw : Kws) (co : Cos) (d : Def) : Bool :=
  ckSs (cnOf T bl kw co d) d.fd.body (defBody d.st) && decide (d.ps.length = d.fd.np) && decide (d.N.length = d.fd.ns) && decide (d.fd.np ≤ d.fd.ns)
structure DefS (T : List Def) (bl : List Str) (kw : Kws) (co : Cos) (d : Def) : Prop where
  sc : FnScope d.N d.ps (defScope d.st)
  ok : okDef T bl kw co d = true
def prg (T : List Def) : Prg := fun f => T[f]?.map (·.fd)
/-! ### tables -/
theorem all_nil {T : List Def} {bl : List Str} {kw : Kws} {co : Cos} : ∀ d ∈ ([] : List Def), DefS T bl kw co d := fun _ h => by cases h
theorem all_cons {T : List Def} {bl : List Str} {kw : Kws} {co : Cos} {d : Def} {ds : List Def} (h : DefS T bl kw co d) (hs : ∀ d ∈ ds, DefS T bl kw co d) : ∀ e ∈ d :: ds, DefS T bl kw co e := fun e he => by
  rcases List.mem_cons.mp he with rfl | he
  · exact h
  · exact hs e he
theorem all_mem {T : List Def} {bl : List Str} {kw : Kws} {co : Cos} {ds : List Def} (h : ∀ d ∈ ds, DefS T bl kw co d) (d : Def) (hd : d ∈ ds) : DefS T bl kw co d := h d hd
noncomputable section
open Classical
variable [Tabs]
structure DefK (K : PySem.W.Frag) (mg : Str → Option Value) (kw : Kws) (f : Nat) (d : Def) : Prop where
  ex : ∃ fa fdat, Fun K d.name d.qual d.st fa fdat ∧ mg d.name = some (.ref fa) ∧ L2.Binds K fdat d.ps [] ∧ (∀ q ∈ (kw.filter fun q => q.1 == f).map (·.2), KB fdat d.ps q.1 q.2.1 q.2.2) ∧ (d.g = true → ∃ cA P, fdat.code = .ref cA ∧ (cA, P) ∈ Tabs.cs)
/-- a def by its body, in the frame of its own code object -/
theorem fun_okC {P : Program} {w : World} {K : PySem.W.Frag} {mg : Str → Option Value} {base : Heap} {x qual : Str} {st : Stmt} {f : Addr} {fd : FuncData} {N ps : List Str} {k : Nat} {sp : Sp} (F : Fun K x qual st f fd) (S : FnScope N ps (defScope st)) (len : ∀ vs H Q E, sp vs H Q E → vs.length = ps.length)
    (hb : ∀ (A : Around) (outer : List PySem.Env) (s : Shared) (H : Hp) (vs : List V) (Q : VK) (E : XK), Room k (A.deeper (envOfC qual (defScope st) s.heap.objs.size f fd.code)) → sp vs H Q E →
      ∃ t, PSs (cxOf CX0 P w K mg base N qual (defScope st) f fd.code A outer s H E).nox (defBody st) t ∧ t { nx := fun _ H' => Q .non H', rt := Q } (L2.start N vs) H) : FnOk P w K mg base CX0 (k + 1) f fd ps sp := by
  obtain ⟨z1, z2, z3, z4, z5, z6, z7, z8, z9, e0, e1, e2⟩ := F.ex
  subst e0
  refine fn_of e1 e2 S len fun A outer s H vs Q E r1 r2 => ?_
  obtain ⟨t, t1, t2⟩ := hb A outer s H vs Q E r1 r2
  exact ⟨t, t1.nox, t2⟩

theorem callN_len {T : List Def} {n f : Nat} {d : Def} {ds : List D} {S S' : Store} {r : D} (hf : T[f]? = some d) (h : callN (prg T) n f ds S = .ok r S') : ds.length = d.fd.np := by
  cases n with
  | zero => unfold callN at h; cases h
  | succ n =>
    unfold callN prg at h
    rw [hf] at h
    dsimp only [Option.map_some] at h
    split at h
    · rename_i c; exact c.1
    · cases h
theorem renv_start {K : PySem.W.Frag} {ι : List Addr} {H : Hp} {ds : List D} {vs : List V} {N : List Str} {np ns : Nat} (r : Reps K ι H ds vs) (h1 : ds.length = np) (h2 : np ≤ ns) (h3 : N.length = ns) :
    REnv K ι H (ds.map some ++ List.replicate (ns - np) none) (L2.start N vs) := by
  have hl := r.len
  refine ⟨?_, fun i d e => ?_⟩
  · unfold L2.start
    simp only [List.length_append, List.length_map, List.length_replicate]
    omega
  · have hi : i < ds.length := by
      by_cases hi : i < ds.length
      · exact hi
      · rw [List.getElem?_append_right (by simpa using hi)] at e
        rw [List.getElem?_replicate] at e
        split at e <;> cases e
    rw [List.getElem?_append_left (by simpa using hi), List.getElem?_map] at e
    cases e2 : ds[i]? with
    | none => rw [e2] at e; cases e
    | some x =>
      rw [e2] at e
      cases e
      obtain ⟨v, ev, rv⟩ := r.get e2
      refine ⟨v, ?_, rv⟩
      unfold L2.start
      rw [List.getElem?_append_left (by rw [List.length_map, ← hl]; exact hi), List.getElem?_map, ev]
      rfl
theorem fun_det {K : PySem.W.Frag} {x q x' q' : Str} {st st' : Stmt} {f : Addr} {fd fd' : FuncData} (F : Fun K x q st f fd) (F' : Fun K x' q' st' f fd') : fd = fd' := by
  obtain ⟨_, _, _, _, _, _, _, _, _, _, a, _⟩ := F.ex
  obtain ⟨_, _, _, _, _, _, _, _, _, _, b, _⟩ := F'.ex
  rw [a] at b
  have c := congrArg (fun o : Option Obj => o.map Obj.data) b
  simp only [Option.map_some, Option.some.injEq] at c
  exact Data.func.inj c
theorem callN_ok {P : Program} {w : World} {K : PySem.W.Frag} {mg : Str → Option Value} {base : Heap} {T : List Def} {bl : List Str} {kw : Kws} {co : Cos}
    (hs : ∀ (f : Nat) (d : Def), T[f]? = some d → DefS T bl kw co d) (hk : ∀ (f : Nat) (d : Def), T[f]? = some d → DefK K mg kw f d) (hb : ∀ x, bl.contains x = true → mg x = none) (hco : ∀ x k, (x, k) ∈ co → ConOk K mg x k) (hT : ∀ p ∈ Tabs.cs, GxR.TabB base mg p.1 p.2) :
    ∀ (n f : Nat) (d : Def) (fa : Addr) (fdat : FuncData), T[f]? = some d → mg d.name = some (.ref fa) → Fun K d.name d.qual d.st fa fdat → FnOk P w K mg base CX0 (8 * n) fa fdat d.ps (GSp K d.ps.length (callN (prg T) n f))
  | 0, f, d, fa, fdat, hf, hfa, F => by
    have no : ∀ vs H Q E, GSp K d.ps.length (callN (prg T) 0 f) vs H Q E → False := fun vs H Q E h => by
      obtain ⟨_, ι, S, ds, _, _, g⟩ := h
      unfold callN at g
      exact got_bad g
    exact ⟨fun vs H Q E h => h.1, fun A outer s H args us vs Q E _ _ _ _ h => (no _ _ _ _ h).elim⟩
  | n + 1, f, d, fa, fdat, hf, hfa, F => by
    have S0 := hs f d hf
    have ok := S0.ok
    unfold okDef at ok
    simp only [Bool.and_eq_true, decide_eq_true_eq] at ok
    obtain ⟨⟨⟨ck, e1⟩, e2⟩, e3⟩ := ok
    refine fun_okC F (k := 8 * n + 7) S0.sc (fun vs H Q E h => h.1) (fun A outer s H vs Q E hr h => ?_)
    have fits : FitsS (cnOf T bl kw co d) (callN (prg T) n) (cxOf CX0 P w K mg base d.N d.qual (defScope d.st) fa fdat.code A outer s H E).nox := by
      refine ⟨⟨rfl, rfl, S0.sc.nd, rfl, by have := hr.un; show (A.deeper (envOfC d.qual (defScope d.st) s.heap.objs.size fa fdat.code)).units + 65 < cLine; omega, rfl, hb, hco, fun hg => ?_, 8 * n, hr.mono (by omega), fun _ => hr.mono (by omega), fun g hg => ?_⟩, fun _ => rfl, S0.sc.kind⟩
      · obtain ⟨fa', fdat', F', m', _, _, hc⟩ := (hk f d hf).ex
        obtain ⟨cA, P, h1, h2⟩ := hc hg
        have : fdat' = fdat := by
          have q := hfa.symm.trans m'
          cases q
          exact fun_det F' F
        rw [this] at h1
        exact ⟨cA, P, h1, hT _ h2, h2⟩
      have hg' : T[g]? = some T[g] := List.getElem?_eq_getElem hg
      obtain ⟨ga, gd, G, gm, gb, gk, _⟩ := (hk g T[g] hg').ex
      have gok := callN_ok (P := P) (w := w) (base := base) hs hk hb hco hT n g T[g] ga gd hg' gm G
      have nm : (cnOf T bl kw co d).fn g = T[g].name := by
        show ((T[g]?.map Def.name).getD ("" : Str)) = _
        rw [hg']
        rfl
      refine ⟨ga, gd, T[g].ps, ?_, G.kp, gok, gb, gk, fun ds S r S' h => ?_⟩
      · rw [nm]; exact gm
      · have o2 := (hs g T[g] hg').ok
        unfold okDef at o2
        simp only [Bool.and_eq_true, decide_eq_true_eq] at o2
        rw [callN_len hg' h, ← o2.1.1.2]
    refine ⟨_, sn_Ss (callN (prg T) n) d.fd.body _ _ _ fits ck, ?_⟩
    obtain ⟨hl, ι, S, ds, sr, r, g⟩ := h
    have hds : ds.length = d.fd.np := by rw [r.len, hl, e1]
    have ec : callN (prg T) (n + 1) f ds S = endF d.fd S (exSs (callN (prg T) n) d.fd.body (ds.map some ++ List.replicate (d.fd.ns - d.fd.np) none) S) := by
      conv => lhs; unfold callN
      unfold prg
      rw [hf]
      dsimp only [Option.map_some]
      rw [if_pos ⟨hds, e3⟩]
    rw [ec] at g
    unfold endF at g
    obtain ⟨⟨fl, env1⟩, S1, ex, g1⟩ := got_bnd g
    refine ⟨ι, _, S, renv_start r hds e3 e2, sr, fl, env1, S1, ex, fun ι' H' σ' st sr1 re1 => ?_⟩
    cases fl with
    | next =>
      dsimp only at g1
      split at g1
      · rcases got_ite g1 with ⟨ht, g1⟩ | ⟨_, g1⟩
        · exact got_ok g1 ι H' .non st.back (sr.back sr1 st ht) to_non
        · exact (got_bad g1).elim
      · exact got_ok g1 ι' H' .non st sr1 to_non
    | ret x =>
      intro v rv
      dsimp only at g1
      split at g1
      · rcases got_ite g1 with ⟨⟨ht, hc⟩, g1⟩ | ⟨_, g1⟩
        · obtain ⟨t, et⟩ := st.pre
          subst et
          exact got_ok g1 ι H' v st.back (sr.back sr1 st ht) (Rep.cut x v (by rw [sr.len]; exact hc) rv)
        · exact (got_bad g1).elim
      · exact got_ok g1 ι' H' v st sr1 rv
    | brk => exact (got_bad g1).elim
    | cont => exact (got_bad g1).elim

/-! ### all defs -/
def KAll (K : PySem.W.Frag) (mg : Str → Option Value) (kw : Kws) : Nat → List Def → Prop
  | _, [] => True
  | i, d :: ds => DefK K mg kw i d ∧ KAll K mg kw (i + 1) ds
theorem kall_at {K : PySem.W.Frag} {mg : Str → Option Value} {kw : Kws} : ∀ {T : List Def} {i : Nat}, KAll K mg kw i T → ∀ (f : Nat) (d : Def), T[f]? = some d → DefK K mg kw (i + f) d
  | [], _, _, _, _, h => by simp at h
  | d :: ds, i, k, 0, e, h => by
    have h' : d = e := Option.some.inj h
    rw [← h']
    exact k.1
  | d :: ds, i, k, f + 1, e, h => by
    have := kall_at (T := ds) k.2 f e h
    rw [show i + (f + 1) = i + 1 + f by omega]
    exact this
theorem kall_get {K : PySem.W.Frag} {mg : Str → Option Value} {kw : Kws} {T : List Def} (h : KAll K mg kw 0 T) : ∀ (f : Nat) (d : Def), T[f]? = some d → DefK K mg kw f d := fun f d e => by
  have := kall_at h f d e
  rw [Nat.zero_add] at this
  exact this

/-! ### a law -/
theorem ints_reps {K : PySem.W.Frag} {ι : List Addr} {H : Hp} : ∀ ns : List Int, Reps K ι H (ns.map .int) (ns.map V.int)
  | [] => Reps.nil
  | n :: ns => .cons (to_int n) (ints_reps ns)
theorem law_sp {K : PySem.W.Frag} {H : Hp} {a : Addr} {ns : List Int} {φ : List D → Store → Res D} (hT : ∀ p ∈ Tabs.cs, H p.2 = some (.tbl #[])) (hS : SqL K H a (ns.map V.int)) (h : ∃ S', φ [.rls (ns.map .int)] [] = .ok (.bl true) S') (h2 : ∃ S', φ [.loc 0] [.lst (ns.map .int)] = .ok (.bl true) S') :
    GSp K 1 φ [.ref a] H (fun v _ => v = .bl true) fun _ _ _ => False := by
  have tb : ∀ p ∈ Tabs.cs, GxR.TabG H p.2 := fun p hp => ⟨#[], hT p hp, by first | trivial | (unfold TriplesOk; trivial)⟩
  have frozen : RoL K H a (ns.map V.int) → GSp K 1 φ [.ref a] H (fun v _ => v = .bl true) fun _ _ _ => False := fun ro => by
    obtain ⟨S', e⟩ := h
    refine ⟨rfl, [], [], [.rls (ns.map .int)], ⟨List.nodup_nil, rfl, fun l o a e _ => by simp at e, tb⟩, .cons ?_ .nil, .bl true, S', e, fun ι' H' b _ _ r => rep_bl r⟩
    unfold Rep
    exact ⟨a, _, rfl, ro, ints_reps ns⟩
  rcases hS with (h0 | h0) | h0
  · obtain ⟨S', e⟩ := h2
    refine ⟨rfl, [a], [.lst (ns.map .int)], [.loc 0], ⟨by simp, rfl, fun l o b e1 e2 => ?_, tb⟩, .cons ?_ .nil, .bl true, S', e, fun ι' H' b _ _ r => rep_bl r⟩
    · cases l with
      | zero =>
        simp at e1 e2
        subst e1 e2
        exact ⟨_, h0, ints_reps ns⟩
      | succ l => simp at e1
    · unfold Rep
      exact ⟨a, rfl, rfl⟩
  · exact frozen (.inl h0)
  · exact frozen (.inr h0)
theorem defK_mk {K : PySem.W.Frag} {h : Heap} {mg : Str → Option Value} {kw : Kws} {i : Nat} {d : Def} {f : Addr} {od an : Option Addr} {sl : Array (Option Value)} {oc kV dc pm cd ct : Value} (X : K.In h) (G : h.Ns mainGlobals mg)
    (a : PySem.W.nsIn K mainGlobals d.name = some (some (.ref f))) (l : K.lookup f = some ⟨oc, od, .func (PySem.W.fnOf d.name d.qual (defArgs d.st) (defBody d.st) (defScope d.st) .none kV dc pm an cd ct), sl⟩) (c : PySem.W.codeIn K cd d.qual = true) (k : PySem.W.keepIn K (.ref f) = true)
    (b : ∀ (kV doc pm : Value) (an : Option Addr) (cdv ct : Value) (us : List Value), us.length = d.ps.length → bindArgs (PySem.W.fnOf d.name d.qual (defArgs d.st) (defBody d.st) (defScope d.st) .none kV doc pm an cdv ct) ⟨us, []⟩ = pure (d.ps.zip us))
    (bk : ∀ (kV doc pm : Value) (an : Option Addr) (cdv ct : Value), ∀ q ∈ (kw.filter fun q => q.1 == i).map (·.2), KB (PySem.W.fnOf d.name d.qual (defArgs d.st) (defBody d.st) (defScope d.st) .none kV doc pm an cdv ct) d.ps q.1 q.2.1 q.2.2)
    (hcd : d.g = true → ∃ cA P, cd = .ref cA ∧ (cA, P) ∈ Tabs.cs) : DefK K mg kw i d := by
  have F := fun_mk (st := d.st) l c k
  exact ⟨f, _, F, PySem.W.mg_of X G a, F.binds b, bk _ _ _ _ _ _, hcd⟩
end
end SX
namespace SX
open PySem PySem.Spec PyProof.Rows L2
noncomputable section
open Classical

/-! ### how a call is reckoned -/
theorem callN_eq {P : Prg} {f : Nat} {fd : Fd} (n : Nat) (ds : List D) (S : Store) (h : P f = some fd) (h1 : ds.length = fd.np) (h2 : fd.np ≤ fd.ns) :
    callN P (n + 1) f ds S = endF fd S (exSs (callN P n) fd.body (ds.map some ++ List.replicate (fd.ns - fd.np) none) S) := by
  conv => lhs; unfold callN
  rw [h]
  dsimp only
  rw [if_pos ⟨h1, h2⟩]
theorem cuts_app (S G : Store) : Cuts S (S ++ G) := ⟨by rw [List.length_append]; omega, fun j hj => .inl (List.getElem?_append_left hj)⟩
theorem cuts_self (S : Store) : Cuts S S := ⟨Nat.le_refl _, fun j hj => .inl rfl⟩
/-- the end of a def that forgets -/
theorem end_ret {fd : Fd} {S S1 : Store} {r : Res (Flow × Env)} {d : D} {env : Env} (e : r = .ok (.ret d, env) S1) (hp : fd.pure = true) (hc : Cuts S S1) (hd : clD S.length d = true) : endF fd S r = .ok d (S1.take S.length) := by
  rw [e]
  unfold endF
  rw [bnd_ok]
  dsimp only
  rw [if_pos hp, if_pos ⟨hc, hd⟩]
theorem end_app {fd : Fd} {S : Store} {r : Res (Flow × Env)} {d : D} {env : Env} (G : Store) (e : r = .ok (.ret d, env) (S ++ G)) (hp : fd.pure = true) (hd : clD S.length d = true) : endF fd S r = .ok d S := by
  rw [end_ret e hp (cuts_app S G) hd, List.take_left]
theorem end_pure {fd : Fd} {S : Store} {r : Res (Flow × Env)} {d : D} {env : Env} (e : r = .ok (.ret d, env) S) (hp : fd.pure = true) (hd : clD S.length d = true) : endF fd S r = .ok d S := by
  rw [end_ret e hp (cuts_self S) hd, List.take_length]
theorem end_any {fd : Fd} {S S1 : Store} {r : Res (Flow × Env)} {d : D} {env : Env} (e : r = .ok (.ret d, env) S1) (hp : fd.pure = false) : endF fd S r = .ok d S1 := by
  rw [e]
  unfold endF
  rw [bnd_ok]
  dsimp only
  rw [hp]
  rfl

/-! ### while -/
theorem whN_up {c : Env → Store → Res Bool} {b : Env → Store → Res (Flow × Env)} : ∀ {n : Nat} {env : Env} {S : Store}, whN c b n env S ≠ .bad → ∀ m, n ≤ m → whN c b m env S = whN c b n env S
  | 0, env, S, h, m, _ => absurd (by unfold whN; rfl) h
  | n + 1, env, S, h, 0, hm => by omega
  | n + 1, env, S, h, m + 1, hm => by
    unfold whN at h ⊢
    cases hc : c env S with
    | bad => rfl
    | ok k S1 =>
      rw [hc] at h
      simp only [bnd_ok] at h ⊢
      cases k with
      | false => rfl
      | true =>
        simp only [if_true] at h ⊢
        cases hb : b env S1 with
        | bad => rfl
        | ok r S2 =>
          rw [hb] at h
          simp only [bnd_ok] at h ⊢
          obtain ⟨fl, env2⟩ := r
          cases fl with
          | next => exact whN_up h m (by omega)
          | cont => exact whN_up h m (by omega)
          | brk => rfl
          | ret d => rfl
theorem whL_of {c : Env → Store → Res Bool} {b : Env → Store → Res (Flow × Env)} {n : Nat} {env : Env} {S : Store} (h : whN c b n env S ≠ .bad) : whL c b env S = whN c b n env S := by
  have hex : ∃ n, whN c b n env S ≠ .bad := ⟨n, h⟩
  unfold whL
  rw [dif_pos hex]
  have h2 := choose_spec hex
  rcases Nat.le_total n (choose hex) with hle | hle
  · exact whN_up h _ hle
  · exact (whN_up h2 _ hle).symm
theorem whL_no {c : Env → Store → Res Bool} {b : Env → Store → Res (Flow × Env)} {env : Env} {S : Store} (h : ∀ n, whN c b n env S = .bad) : whL c b env S = .bad := by
  unfold whL
  rw [dif_neg]
  rintro ⟨n, hn⟩
  exact hn (h n)
/-- one turn -/
theorem whL_eq (c : Env → Store → Res Bool) (b : Env → Store → Res (Flow × Env)) (env : Env) (S : Store) :
    whL c b env S = (c env S).bnd fun k S1 => if k = true then (b env S1).bnd fun r S2 => match r.1 with
        | .next => whL c b r.2 S2
        | .cont => whL c b r.2 S2
        | .brk => .ok (.next, r.2) S2
        | .ret d => .ok (.ret d, r.2) S2
      else .ok (.next, env) S1 := by
  have one : ∀ n, whN c b (n + 1) env S = (c env S).bnd fun k S1 => if k = true then (b env S1).bnd fun r S2 => match r.1 with
        | .next => whN c b n r.2 S2
        | .cont => whN c b n r.2 S2
        | .brk => .ok (.next, r.2) S2
        | .ret d => .ok (.ret d, r.2) S2
      else .ok (.next, env) S1 := fun n => by
    conv => lhs; unfold whN
    all_goals rfl
  cases hc : c env S with
  | bad =>
    refine whL_no fun n => ?_
    cases n with
    | zero => unfold whN; rfl
    | succ n => rw [one, hc]; rfl
  | ok k S1 =>
    simp only [bnd_ok]
    cases k with
    | false =>
      simp only [Bool.false_eq_true, if_false]
      rw [whL_of (n := 1)]
      · rw [one, hc]; rfl
      · rw [one, hc]; intro z; cases z
    | true =>
      simp only [if_true]
      cases hb : b env S1 with
      | bad =>
        simp only [bnd_bad]
        refine whL_no fun n => ?_
        cases n with
        | zero => unfold whN; rfl
        | succ n => rw [one, hc]; simp only [bnd_ok, if_true]; rw [hb]; rfl
      | ok r S2 =>
        simp only [bnd_ok]
        obtain ⟨fl, env2⟩ := r
        have go : ∀ n, whN c b (n + 1) env S = (match (generalizing := false) fl with
            | .next => whN c b n env2 S2
            | .cont => whN c b n env2 S2
            | .brk => .ok (.next, env2) S2
            | .ret d => .ok (.ret d, env2) S2) := fun n => by
          rw [one, hc]
          simp only [bnd_ok, if_true]
          refine (congrArg (fun z => Res.bnd z _) hb).trans ?_
          rfl
        have lp : (∀ n, whN c b (n + 1) env S = whN c b n env2 S2) → whL c b env S = whL c b env2 S2 := fun hh => by
          by_cases hex : ∃ n, whN c b n env2 S2 ≠ .bad
          · obtain ⟨n, hn⟩ := hex
            rw [whL_of hn, whL_of (n := n + 1) (by rw [hh]; exact hn), hh]
          · have hno : ∀ n, whN c b n env2 S2 = .bad := fun n => Classical.byContradiction fun z => hex ⟨n, z⟩
            rw [whL_no hno]
            refine whL_no fun n => ?_
            cases n with
            | zero => unfold whN; rfl
            | succ n => rw [hh, hno]
        cases fl with
        | next => exact lp go
        | cont => exact lp go
        | brk =>
          rw [whL_of (n := 1)]
          · exact go 0
          · rw [go 0]; intro z; cases z
        | ret d =>
          rw [whL_of (n := 1)]
          · exact go 0
          · rw [go 0]; intro z; cases z

/-! ### the store's places -/
@[simp] theorem st_get (S G : Store) (k : Nat) : (S ++ G)[S.length + k]? = G[k]? := by
  rw [List.getElem?_append_right (by omega)]
  congr 1
  omega
@[simp] theorem st_get0 (S G : Store) : (S ++ G)[S.length]? = G[0]? := by
  rw [List.getElem?_append_right (Nat.le_refl _), Nat.sub_self]
@[simp] theorem st_set (S G : Store) (k : Nat) (o : SO) : (S ++ G).set (S.length + k) o = S ++ G.set k o := by
  rw [List.set_append_right _ _ (by omega)]
  congr 2
  omega
@[simp] theorem st_set0 (S G : Store) (o : SO) : (S ++ G).set S.length o = S ++ G.set 0 o := by
  rw [List.set_append_right _ _ (Nat.le_refl _), Nat.sub_self]
@[simp] theorem at0 {α : Type} (x : α) (xs : List α) : atI (x :: xs) 0 = some x := by
  unfold atI ixN
  simp
@[simp] theorem at1 {α : Type} (x y : α) (xs : List α) : atI (x :: y :: xs) 1 = some y := by
  unfold atI ixN
  have : (1 : Int) < ((x :: y :: xs).length : Int) := by simp; omega
  simp only [List.length_cons] at this ⊢
  rw [if_pos (by decide), if_pos this]
  rfl
@[simp] theorem at2 {α : Type} (x y z : α) (xs : List α) : atI (x :: y :: z :: xs) 2 = some z := by
  unfold atI ixN
  have : (2 : Int) < ((x :: y :: z :: xs).length : Int) := by simp; omega
  simp only [List.length_cons] at this ⊢
  rw [if_pos (by decide), if_pos this]
  rfl
@[simp] theorem at3 {α : Type} (x y z w : α) (xs : List α) : atI (x :: y :: z :: w :: xs) 3 = some w := by
  unfold atI ixN
  have : (3 : Int) < ((x :: y :: z :: w :: xs).length : Int) := by simp; omega
  simp only [List.length_cons] at this ⊢
  rw [if_pos (by decide), if_pos this]
  rfl
@[simp] theorem at_m1 {α : Type} (xs : List α) (x : α) : atI (xs ++ [x]) (-1) = some x := atI_last xs x
theorem at_nat {α : Type} {xs : List α} {i : Int} (h0 : 0 ≤ i) (h1 : i.toNat < xs.length) : atI xs i = some xs[i.toNat] := by
  unfold atI ixN
  rw [if_pos h0, if_pos (by omega)]
  simp
theorem cmul_small {i j : Int} (h : -(2 ^ 64) < j ∧ j < 2 ^ 64) : CMulW i j ∨ CMul i j := .inr (.inr h)
theorem cmul_small' {i j : Int} (h : -(2 ^ 64) < i ∧ i < 2 ^ 64) : CMulW i j ∨ CMul i j := .inr (.inl h)
theorem cmul_wide {i j : Int} {a b : Nat} (ha : i.natAbs < 2 ^ a) (hb : j.natAbs < 2 ^ b) (h0 : 0 < a) (h1 : 0 < b) (h : a + b ≤ 1000000) : CMulW i j ∨ CMul i j := .inl (wide_mul ha hb h0 h1 h)
end
end SX
namespace SX
open PySem PySem.Spec PyProof.Rows L2
noncomputable section
open Classical

/-! ### one step at a time -/
theorem bnd_congr {α β : Type} {r r' : Res α} {k : α → Store → Res β} (h : r = r') : r.bnd k = r'.bnd k := by rw [h]
def ok1 {α β : Type} (a : α) (S : Store) (k : α → Store → Res β) : Res β := k a S
section
variable (F : Fns) (env : Env) (S : Store)
def varK (S : Store) : Option (Option D) → Res D
  | some (some d) => .ok d S
  | _ => .bad
theorem vE_var (i : Nat) : evE F (.var i) env S = varK S env[i]? := by rw [evE]; rfl
theorem varK_ok (d : D) : varK S (some (some d)) = .ok d S := rfl
theorem vE_int (i : Int) : evE F (.cint i) env S = .ok (.int i) S := by rw [evE]
theorem vE_bl (b : Bool) : evE F (.cbl b) env S = .ok (.bl b) S := by rw [evE]
theorem vE_non : evE F .cnon env S = .ok .non S := by rw [evE]
theorem vE_str (x : Str) : evE F (.cstr x) env S = .ok (.str x) S := by rw [evE]
def tupK (ds : List D) (S : Store) : Res D := if ds.length ≤ LINE then .ok (.tup ds) S else .bad
def lstK (ds : List D) (S : Store) : Res D := if ds.length ≤ LINE then new S (.lst ds) else .bad
theorem vE_tup (es : Es) : evE F (.tup es) env S = (evEs F es env S).bnd tupK := by rw [evE]; rfl
theorem vE_lst (es : Es) : evE F (.lst es) env S = (evEs F es env S).bnd lstK := by rw [evE]; rfl
def binJ (op : BO) (x y : D) (S2 : Store) : Res D := binD op x y S2
def binK (op : BO) (b : E) (x : D) (S1 : Store) : Res D := (evE F b env S1).bnd (binJ op x)
theorem binJ_eq (op : BO) (x y : D) : binJ op x y S = binD op x y S := rfl
theorem binK_eq (op : BO) (b : E) (x : D) : binK F env op b x S = (evE F b env S).bnd (binJ op x) := rfl
theorem vE_bin (op : BO) (a b : E) : evE F (.bin op a b) env S = (evE F a env S).bnd (binK F env op b) := by rw [evE]; rfl
def negK (x : D) (S1 : Store) : Res D := match x with
    | .int i => .ok (.int (-i)) S1
    | _ => .bad
theorem vE_neg (a : E) : evE F (.neg a) env S = (evE F a env S).bnd negK := by rw [evE]; rfl
def notK (b : Bool) (S1 : Store) : Res D := .ok (.bl (!b)) S1
theorem notK_eq (b : Bool) : notK b S = .ok (.bl (!b)) S := rfl
theorem vE_not (a : E) : evE F (.not a) env S = (truR (evE F a env S)).bnd notK := by rw [evE]; rfl
theorem vE_and (es : Es) : evE F (.and es) env S = evAnd F es env S := by rw [evE]
theorem vE_or (es : Es) : evE F (.or es) env S = evOr F es env S := by rw [evE]
def cmpJ (op : CO) (x y : D) (S2 : Store) : Res D := ofB (cmpD op x y S2) S2
def cmpK (op : CO) (b : E) (x : D) (S1 : Store) : Res D := (evE F b env S1).bnd (cmpJ op x)
theorem cmpJ_eq (op : CO) (x y : D) : cmpJ op x y S = ofB (cmpD op x y S) S := rfl
theorem cmpK_eq (op : CO) (b : E) (x : D) : cmpK F env op b x S = (evE F b env S).bnd (cmpJ op x) := rfl
theorem vE_cmp (op : CO) (a b : E) : evE F (.cmp op a b) env S = (evE F a env S).bnd (cmpK F env op b) := by rw [evE]; rfl
def brE (a b : E) (k : Bool) (S1 : Store) : Res D := if k = true then evE F a env S1 else evE F b env S1
theorem vE_ite (c a b : E) : evE F (.ite c a b) env S = (truR (evE F c env S)).bnd (brE F env a b) := by rw [evE]; rfl
theorem brE_t (a b : E) : brE F env a b true S = evE F a env S := rfl
theorem brE_f (a b : E) : brE F env a b false S = evE F b env S := rfl
def idxJ (x y : D) (S2 : Store) : Res D := idxD x y S2
def idxK (b : E) (x : D) (S1 : Store) : Res D := (evE F b env S1).bnd (idxJ x)
theorem idxJ_eq (x y : D) : idxJ x y S = idxD x y S := rfl
theorem idxK_eq (b : E) (x : D) : idxK F env b x S = (evE F b env S).bnd (idxJ x) := rfl
theorem vE_idx (a b : E) : evE F (.idx a b) env S = (evE F a env S).bnd (idxK F env b) := by rw [evE]; rfl
theorem vE_slc (a lo hi : E) : evE F (.slc a lo hi) env S = (evE F a env S).bnd fun x S1 =>
      (if isAbs lo = true then .ok none S1 else optI (evE F lo env S1)).bnd fun l S2 =>
      (if isAbs hi = true then .ok none S2 else optI (evE F hi env S2)).bnd fun h S3 => slcD x l h S3 := by rw [evE]
def calJ (f : Nat) (ds : List D) (S1 : Store) : Res D := F f ds S1
theorem calJ_eq (f : Nat) (ds : List D) : calJ F f ds S = F f ds S := rfl
theorem vE_call (f : Nat) (es : Es) : evE F (.call f es) env S = (evEs F es env S).bnd (calJ F f) := by rw [evE]; rfl
def clkJ (f : Nat) (perm : List Nat) (ds zs : List D) (S2 : Store) : Res D := F f (permD perm (ds ++ zs)) S2
def clkK (f : Nat) (ks : Es) (perm : List Nat) (ds : List D) (S1 : Store) : Res D := (evEs F ks env S1).bnd (clkJ F f perm ds)
theorem clkJ_eq (f : Nat) (perm : List Nat) (ds zs : List D) : clkJ F f perm ds zs S = F f (permD perm (ds ++ zs)) S := rfl
theorem clkK_eq (f : Nat) (ks : Es) (perm : List Nat) (ds : List D) : clkK F env f ks perm ds S = (evEs F ks env S).bnd (clkJ F f perm ds) := rfl
theorem vE_callk (f : Nat) (es ks : Es) (perm : List Nat) : evE F (.callk f es ks perm) env S = (evEs F es env S).bnd (clkK F env f ks perm) := by rw [evE]; rfl
def priJ (p : Pr) (ds : List D) (S1 : Store) : Res D := primD p ds S1
theorem priJ_eq (p : Pr) (ds : List D) : priJ p ds S = primD p ds S := rfl
theorem vE_prim (p : Pr) (es : Es) : evE F (.prim p es) env S = (evEs F es env S).bnd (priJ p) := by rw [evE]; rfl
def isiJ (t : Ty) (x : D) (S1 : Store) : Res D := ofB (isD t x) S1
theorem isiJ_eq (t : Ty) (x : D) : isiJ t x S = ofB (isD t x) S := rfl
theorem vE_isin (t : Ty) (a : E) : evE F (.isin t a) env S = (evE F a env S).bnd (isiJ t) := by rw [evE]; rfl
def metJ (m : Mt) (x : D) (ds : List D) (S2 : Store) : Res D := methD m x ds S2
def metI (m : Mt) (es : Es) (x : D) (S1 : Store) : Bool → Res D
  | true => (evEs F es env S1).bnd (metJ m x)
  | false => .bad
def metK (m : Mt) (es : Es) (x : D) (S1 : Store) : Res D := metI F env m es x S1 (recvOk m x S1)
theorem metJ_eq (m : Mt) (x : D) (ds : List D) : metJ m x ds S = methD m x ds S := rfl
theorem metI_t (m : Mt) (es : Es) (x : D) : metI F env m es x S true = (evEs F es env S).bnd (metJ m x) := rfl
theorem metK_eq (m : Mt) (es : Es) (x : D) : metK F env m es x S = metI F env m es x S (recvOk m x S) := rfl
theorem vE_meth (m : Mt) (o : E) (es : Es) : evE F (.meth m o es) env S = (evE F o env S).bnd (metK F env m es) := by
  rw [evE]
  congr 1
  funext x S1
  unfold metK
  cases recvOk m x S1 <;> rfl
def lcS (t : Tg) (own : List Nat) (cs : Es) (elt : E) (w : Walk) (items acc : List D) (S : Store) : Res (List D) := lcL w t env own (fun e s => evTs F cs e s) (fun e s => evE F elt e s) items acc S
def lcJ (ds : List D) (S2 : Store) : Res D := new S2 (.lst ds)
def lcK (elt : E) (t : Tg) (cs : Es) (own : List Nat) (w : Walk) (S1 : Store) : Res D := (lcS F env t own cs elt w w.items [] S1).bnd lcJ
theorem lcJ_eq (ds : List D) : lcJ ds S = new S (.lst ds) := rfl
theorem lcK_eq (elt : E) (t : Tg) (cs : Es) (own : List Nat) (w : Walk) : lcK F env elt t cs own w S = (lcS F env t own cs elt w w.items [] S).bnd lcJ := rfl
theorem vE_lc (elt : E) (t : Tg) (it : It) (cs : Es) (own : List Nat) : evE F (.lc elt t it cs own) env S = (evIt F it env S).bnd (lcK F env elt t cs own) := by rw [evE]; rfl
theorem vE_gcon (x : Str) (k : Cst) : evE F (.gcon x k) env S = .ok k.toD S := by rw [evE]
theorem toD_int (i : Int) : Cst.toD (.int i) = .int i := rfl
theorem toD_strs (xs : List Str) : Cst.toD (.strs xs) = .tup (xs.map .str) := rfl
def chnJ (op' : CO) (c : E) (y : D) (r : D) (S3 : Store) : Res D := match r with
    | .bl true => (evE F c env S3).bnd (cmpJ op' y)
    | r => .ok r S3
def chnI (op op' : CO) (c : E) (x y : D) (S2 : Store) : Res D := (ofB (cmpD op x y S2) S2).bnd (chnJ F env op' c y)
def chnK (op op' : CO) (b c : E) (x : D) (S1 : Store) : Res D := (evE F b env S1).bnd (chnI F env op op' c x)
theorem chnI_eq (op op' : CO) (c : E) (x y : D) : chnI F env op op' c x y S = (ofB (cmpD op x y S) S).bnd (chnJ F env op' c y) := rfl
theorem chnK_eq (op op' : CO) (b c : E) (x : D) : chnK F env op op' b c x S = (evE F b env S).bnd (chnI F env op op' c x) := rfl
theorem chnJ_t (op' : CO) (c : E) (y : D) : chnJ F env op' c y (.bl true) S = (evE F c env S).bnd (cmpJ op' y) := rfl
theorem chnJ_f (op' : CO) (c : E) (y : D) : chnJ F env op' c y (.bl false) S = .ok (.bl false) S := rfl
theorem vE_chain (op op' : CO) (a b c : E) : evE F (.chain op op' a b c) env S = (evE F a env S).bnd (chnK F env op op' b c) := by rw [evE]; rfl
def tgJ (ds : List D) (S2 : Store) : Res D := .ok (.tup ds) S2
def tgK (elt : E) (t : Tg) (cs : Es) (own : List Nat) (w : Walk) (S1 : Store) : Res D := (lcS F env t own cs elt w w.items [] S1).bnd tgJ
theorem tgJ_eq (ds : List D) : tgJ ds S = .ok (.tup ds) S := rfl
theorem tgK_eq (elt : E) (t : Tg) (cs : Es) (own : List Nat) (w : Walk) : tgK F env elt t cs own w S = (lcS F env t own cs elt w w.items [] S).bnd tgJ := rfl
theorem vE_tupG (elt : E) (t : Tg) (it : It) (cs : Es) (own : List Nat) : evE F (.tupG elt t it cs own) env S = (evIt F it env S).bnd (tgK F env elt t cs own) := by rw [evE]; rfl
def qlS (all : Bool) (t : Tg) (own : List Nat) (cs : Es) (elt : E) (w : Walk) (items : List D) (S : Store) : Res D := qlL all w t env own (fun e s => evTs F cs e s) (fun e s => evE F elt e s) items S
def qlK (all : Bool) (elt : E) (t : Tg) (cs : Es) (own : List Nat) (w : Walk) (S1 : Store) : Res D := qlS F env all t own cs elt w w.items S1
theorem qlK_eq (all : Bool) (elt : E) (t : Tg) (cs : Es) (own : List Nat) (w : Walk) : qlK F env all elt t cs own w S = qlS F env all t own cs elt w w.items S := rfl
theorem vE_qual (all : Bool) (elt : E) (t : Tg) (it : It) (cs : Es) (own : List Nat) : evE F (.qual all elt t it cs own) env S = (evIt F it env S).bnd (qlK F env all elt t cs own) := by rw [evE]; rfl
def smS (t : Tg) (own : List Nat) (cs : Es) (elt : E) (w : Walk) (items : List D) (acc : Int) (S : Store) : Res D := smL w t env own (fun e s => evTs F cs e s) (fun e s => evE F elt e s) items acc S
def smK (elt : E) (t : Tg) (cs : Es) (own : List Nat) (w : Walk) (S1 : Store) : Res D := smS F env t own cs elt w w.items 0 S1
theorem smK_eq (elt : E) (t : Tg) (cs : Es) (own : List Nat) (w : Walk) : smK F env elt t cs own w S = smS F env t own cs elt w w.items 0 S := rfl
theorem vE_sumG (elt : E) (t : Tg) (it : It) (cs : Es) (own : List Nat) : evE F (.sumG elt t it cs own) env S = (evIt F it env S).bnd (smK F env elt t cs own) := by rw [evE]; rfl
def l2I (t1 : Tg) (it1 : It) (cs1 : Es) (own1 : List Nat) (elt : E) (e : Env) (acc : List D) (s : Store) : Res (List D) := (evIt F it1 e s).bnd fun w1 s1 => lcS F e t1 own1 cs1 elt w1 w1.items acc s1
def l2S (t : Tg) (own : List Nat) (cs : Es) (t1 : Tg) (it1 : It) (cs1 : Es) (own1 : List Nat) (elt : E) (w : Walk) (items acc : List D) (S : Store) : Res (List D) := lc2L w t env own (fun e s => evTs F cs e s) (l2I F t1 it1 cs1 own1 elt) items acc S
def l2K (elt : E) (t : Tg) (cs : Es) (own : List Nat) (t1 : Tg) (it1 : It) (cs1 : Es) (own1 : List Nat) (w : Walk) (S1 : Store) : Res D := (l2S F env t own cs t1 it1 cs1 own1 elt w w.items [] S1).bnd lcJ
theorem l2K_eq (elt : E) (t : Tg) (cs : Es) (own : List Nat) (t1 : Tg) (it1 : It) (cs1 : Es) (own1 : List Nat) (w : Walk) : l2K F env elt t cs own t1 it1 cs1 own1 w S = (l2S F env t own cs t1 it1 cs1 own1 elt w w.items [] S).bnd lcJ := rfl
theorem vE_lc2 (elt : E) (t : Tg) (it : It) (cs : Es) (own : List Nat) (t1 : Tg) (it1 : It) (cs1 : Es) (own1 : List Nat) : evE F (.lc2 elt t it cs own t1 it1 cs1 own1) env S = (evIt F it env S).bnd (l2K F env elt t cs own t1 it1 cs1 own1) := by rw [evE]; rfl
theorem vEs_nil : evEs F .nil env S = .ok [] S := by rw [evEs]
def conJ (d : D) (ds : List D) (S2 : Store) : Res (List D) := .ok (d :: ds) S2
def conK (es : Es) (d : D) (S1 : Store) : Res (List D) := (evEs F es env S1).bnd (conJ d)
theorem conJ_eq (d : D) (ds : List D) : conJ d ds S = .ok (d :: ds) S := rfl
theorem conK_eq (es : Es) (d : D) : conK F env es d S = (evEs F es env S).bnd (conJ d) := rfl
theorem vEs_cons (e : E) (es : Es) : evEs F (.cons e es) env S = (evE F e env S).bnd (conK F env es) := by rw [evEs]; rfl
def andK (es : Es) (d : D) (S1 : Store) : Option Bool → Res D
  | some true => evAnd F es env S1
  | some false => .ok d S1
  | none => .bad
def orK (es : Es) (d : D) (S1 : Store) : Option Bool → Res D
  | some false => evOr F es env S1
  | some true => .ok d S1
  | none => .bad
theorem vA_one (e : E) : evAnd F (.cons e .nil) env S = evE F e env S := ev_and1
def andJ (es : Es) (d : D) (S1 : Store) : Res D := andK F env es d S1 (truD d S1)
def orJ (es : Es) (d : D) (S1 : Store) : Res D := orK F env es d S1 (truD d S1)
theorem andJ_eq (es : Es) (d : D) : andJ F env es d S = andK F env es d S (truD d S) := rfl
theorem orJ_eq (es : Es) (d : D) : orJ F env es d S = orK F env es d S (truD d S) := rfl
theorem vA_cons (e e' : E) (es : Es) : evAnd F (.cons e (.cons e' es)) env S = (evE F e env S).bnd (andJ F env (.cons e' es)) := by
  rw [ev_and2]
  congr 1
theorem vO_one (e : E) : evOr F (.cons e .nil) env S = evE F e env S := ev_or1
theorem vO_cons (e e' : E) (es : Es) : evOr F (.cons e (.cons e' es)) env S = (evE F e env S).bnd (orJ F env (.cons e' es)) := by
  rw [ev_or2]
  congr 1
theorem andK_t (es : Es) (d : D) : andK F env es d S (some true) = evAnd F es env S := rfl
theorem andK_f (es : Es) (d : D) : andK F env es d S (some false) = .ok d S := rfl
theorem orK_t (es : Es) (d : D) : orK F env es d S (some true) = .ok d S := rfl
theorem orK_f (es : Es) (d : D) : orK F env es d S (some false) = evOr F es env S := rfl
theorem vT_nil : evTs F .nil env S = .ok true S := by rw [evTs]
theorem vT_cons (e : E) (es : Es) : evTs F (.cons e es) env S = truR (evE F e env S) := by rw [evTs]
def seqK (d : D) (S1 : Store) : Res Walk := match d with
    | .tup ds => .ok ⟨ds, none⟩ S1
    | .rls ds => .ok ⟨ds, none⟩ S1
    | .loc l => match S1[l]? with
      | some (.lst ds) => .ok ⟨ds, some l⟩ S1
      | none => .bad
    | _ => .bad
theorem vI_seq (e : E) : evIt F (.seq e) env S = (evE F e env S).bnd seqK := by rw [evIt]; rfl
theorem seqK_tup (ds : List D) : seqK (.tup ds) S = .ok ⟨ds, none⟩ S := rfl
theorem seqK_rls (ds : List D) : seqK (.rls ds) S = .ok ⟨ds, none⟩ S := rfl
def seqL (S : Store) (l : Nat) : Option SO → Res Walk
  | some (.lst ds) => .ok ⟨ds, some l⟩ S
  | none => .bad
theorem seqK_loc (l : Nat) : seqK (.loc l) S = seqL S l S[l]? := by
  unfold seqK seqL
  cases h : S[l]? with
  | none => simp only [h]
  | some o => cases o; simp only [h]
theorem seqL_ok (l : Nat) (ds : List D) : seqL S l (some (.lst ds)) = .ok ⟨ds, some l⟩ S := rfl
def rngK (lo hi : Int) : List D := (List.range (hi - lo).toNat).map fun (k : Nat) => .int (lo + (k : Int))
def rg1K (d : D) (S1 : Store) : Res Walk := match d with
    | .int n => if R62 n then .ok ⟨(List.range n.toNat).map fun (k : Nat) => .int (0 + (k : Int)), none⟩ S1 else .bad
    | _ => .bad
theorem vI_range1 (e : E) : evIt F (.range1 e) env S = (evE F e env S).bnd rg1K := by rw [evIt]; rfl
theorem rg1_int {n : Int} (h : R62 n) : rg1K (.int n) S = .ok ⟨rngK 0 n, none⟩ S := by
  unfold rg1K rngK
  simp only [if_pos h, Int.sub_zero]
def rg2K (x y : D) (S2 : Store) : Res Walk := match x, y with
    | .int i, .int j => if R62 i ∧ R62 j then .ok ⟨rngK i j, none⟩ S2 else .bad
    | _, _ => .bad
def rg2J (b : E) (x : D) (S1 : Store) : Res Walk := (evE F b env S1).bnd (rg2K x)
theorem rg2J_eq (b : E) (x : D) : rg2J F env b x S = (evE F b env S).bnd (rg2K x) := rfl
theorem vI_range2 (a b : E) : evIt F (.range2 a b) env S = (evE F a env S).bnd (rg2J F env b) := by rw [evIt]; rfl
theorem rg2_int {i j : Int} (h : R62 i ∧ R62 j) : rg2K (.int i) (.int j) S = .ok ⟨rngK i j, none⟩ S := by
  unfold rg2K
  simp only [if_pos h]

/-! ### statements -/
def asgK (t : Tg) (d : D) (S1 : Store) : Res (Flow × Env) := match asgT t d S1 env with
    | some env1 => .ok (.next, env1) S1
    | none => .bad
theorem xS_asg (t : Tg) (e : E) : exS F (.asg t e) env S = (evE F e env S).bnd (asgK env t) := by rw [exS]; rfl
theorem asgK_nm (i : Nat) (d : D) : asgK env (.nm i) d S = .ok (.next, env.set i (some d)) S := by unfold asgK; simp only [asgT]
theorem asgT_nm (i : Nat) (d : D) : asgT (.nm i) d S env = some (env.set i (some d)) := by rw [asgT]
theorem asgT_tp2 (i j : Nat) (x y : D) : asgT (.tp (.cons (.nm i) (.cons (.nm j) .nil))) (.tup [x, y]) S env = some ((env.set i (some x)).set j (some y)) := rfl
theorem asgT_tp3 (i j k : Nat) (x y z : D) : asgT (.tp (.cons (.nm i) (.cons (.nm j) (.cons (.nm k) .nil)))) (.tup [x, y, z]) S env = some (((env.set i (some x)).set j (some y)).set k (some z)) := rfl
theorem asgK_tp2 (i j : Nat) (x y : D) : asgK env (.tp (.cons (.nm i) (.cons (.nm j) .nil))) (.tup [x, y]) S = .ok (.next, (env.set i (some x)).set j (some y)) S := rfl
theorem asgK_tp3 (i j k : Nat) (x y z : D) : asgK env (.tp (.cons (.nm i) (.cons (.nm j) (.cons (.nm k) .nil)))) (.tup [x, y, z]) S = .ok (.next, ((env.set i (some x)).set j (some y)).set k (some z)) S := rfl
def parK (is : List Nat) (ds : List D) (S1 : Store) : Res (Flow × Env) := match setAll env is ds with
    | some env1 => .ok (.next, env1) S1
    | none => .bad
theorem xS_par (is : List Nat) (es : Es) : exS F (.par is es) env S = (evEs F es env S).bnd (parK env is) := by rw [exS]; rfl
theorem parK_2 (i j : Nat) (x y : D) : parK env [i, j] [x, y] S = .ok (.next, (env.set i (some x)).set j (some y)) S := rfl
theorem parK_3 (i j k : Nat) (x y z : D) : parK env [i, j, k] [x, y, z] S = .ok (.next, ((env.set i (some x)).set j (some y)).set k (some z)) S := rfl
def nxtK {α : Type} (_ : α) (S4 : Store) : Res (Flow × Env) := .ok (.next, env) S4
def setI3 (x y z : D) (S3 : Store) : Res (Flow × Env) := (setD y z x S3).bnd (nxtK env)
def setI2 (i : E) (x y : D) (S2 : Store) : Res (Flow × Env) := (evE F i env S2).bnd (setI3 env x y)
def setI1 (o i : E) (x : D) (S1 : Store) : Res (Flow × Env) := (evE F o env S1).bnd (setI2 F env i x)
theorem nxtK_eq {α : Type} (a : α) : nxtK env a S = .ok (.next, env) S := rfl
theorem setI3_eq (x y z : D) : setI3 env x y z S = (setD y z x S).bnd (nxtK env) := rfl
theorem setI2_eq (i : E) (x y : D) : setI2 F env i x y S = (evE F i env S).bnd (setI3 env x y) := rfl
theorem setI1_eq (o i : E) (x : D) : setI1 F env o i x S = (evE F o env S).bnd (setI2 F env i x) := rfl
theorem xS_setS (o i v : E) : exS F (.setS o i v) env S = (evE F v env S).bnd (setI1 F env o i) := by rw [exS]; rfl
def augK (i : Nat) (op : BO) (x y : D) (S1 : Store) : Res (Flow × Env) := match augD op x y with
      | some z => .ok (.next, env.set i (some z)) S1
      | none => .bad
def augV (i : Nat) (op : BO) (e : E) : Option (Option D) → Res (Flow × Env)
  | some (some x) => (evE F e env S).bnd (augK env i op x)
  | _ => .bad
theorem xS_aug (i : Nat) (op : BO) (e : E) : exS F (.aug i op e) env S = augV F env S i op e env[i]? := by rw [exS]; rfl
theorem augV_ok (i : Nat) (op : BO) (e : E) (x : D) : augV F env S i op e (some (some x)) = (evE F e env S).bnd (augK env i op x) := rfl
theorem augK_add (i : Nat) (a b : Int) : augK env i .add (.int a) (.int b) S = .ok (.next, env.set i (some (.int (a + b)))) S := rfl
theorem augK_sub (i : Nat) (a b : Int) : augK env i .sub (.int a) (.int b) S = .ok (.next, env.set i (some (.int (a - b)))) S := rfl
def agR (y z : D) (S4 : Store) : Option D → Res (Flow × Env)
  | some r => (setD y z r S4).bnd (nxtK env)
  | none => .bad
def agD (op : BO) (y z x d : D) (S4 : Store) : Res (Flow × Env) := agR env y z S4 (augD op x d)
def agX (op : BO) (e : E) (y z x : D) (S3 : Store) : Res (Flow × Env) := (evE F e env S3).bnd (agD env op y z x)
def agI (op : BO) (e : E) (y z : D) (S2 : Store) : Res (Flow × Env) := (idxM y z S2).bnd (agX F env op e y z)
def agO (i : E) (op : BO) (e : E) (y : D) (S1 : Store) : Res (Flow × Env) := (evE F i env S1).bnd (agI F env op e y)
theorem agR_some (y z r : D) : agR env y z S (some r) = (setD y z r S).bnd (nxtK env) := rfl
theorem agD_eq (op : BO) (y z x d : D) : agD env op y z x d S = agR env y z S (augD op x d) := rfl
theorem agX_eq (op : BO) (e : E) (y z x : D) : agX F env op e y z x S = (evE F e env S).bnd (agD env op y z x) := rfl
theorem agI_eq (op : BO) (e : E) (y z : D) : agI F env op e y z S = (idxM y z S).bnd (agX F env op e y z) := rfl
theorem agO_eq (i : E) (op : BO) (e : E) (y : D) : agO F env i op e y S = (evE F i env S).bnd (agI F env op e y) := rfl
theorem idxM_loc (l : Nat) (b : D) : idxM (.loc l) b S = idxD (.loc l) b S := rfl
theorem augD_add (a b : Int) : augD .add (.int a) (.int b) = some (.int (a + b)) := rfl
theorem augD_sub (a b : Int) : augD .sub (.int a) (.int b) = some (.int (a - b)) := rfl
theorem xS_augS (o i : E) (op : BO) (e : E) : exS F (.augS o i op e) env S = (evE F o env S).bnd (agO F env i op e) := by
  rw [exS]
  all_goals first
    | rfl
    | (congr 1; done)
    | (congr 1
       funext y S1
       unfold agO
       congr 1
       funext z S2
       unfold agI
       congr 1
       funext x S3
       unfold agX
       congr 1
       funext d S4
       unfold agD
       cases augD op x d <;> rfl)
theorem xS_expr (e : E) : exS F (.expr e) env S = (evE F e env S).bnd (nxtK env) := by rw [exS]; rfl
def retK (d : D) (S1 : Store) : Res (Flow × Env) := .ok (.ret d, env) S1
theorem retK_eq (d : D) : retK env d S = .ok (.ret d, env) S := rfl
theorem xS_ret (e : E) : exS F (.ret e) env S = (evE F e env S).bnd (retK env) := by rw [exS]; rfl
theorem xS_retN : exS F .retN env S = .ok (.ret .non, env) S := by rw [exS]
def brS (a b : Ss) (k : Bool) (S1 : Store) : Res (Flow × Env) := if k = true then exSs F a env S1 else exSs F b env S1
theorem xS_ite (c : E) (a b : Ss) : exS F (.ite c a b) env S = (truR (evE F c env S)).bnd (brS F env a b) := by rw [exS]; rfl
theorem brS_t (a b : Ss) : brS F env a b true S = exSs F a env S := rfl
theorem brS_f (a b : Ss) : brS F env a b false S = exSs F b env S := rfl
def whS (c : E) (b : Ss) (env : Env) (S : Store) : Res (Flow × Env) := whL (fun e s => truR (evE F c e s)) (fun e s => exSs F b e s) env S
theorem xS_wh (c : E) (b : Ss) : exS F (.wh c b) env S = whS F c b env S := by rw [exS]; rfl
def whK (c : E) (b : Ss) (r : Flow × Env) (S2 : Store) : Res (Flow × Env) := match r.1 with
        | .next => whS F c b r.2 S2
        | .cont => whS F c b r.2 S2
        | .brk => .ok (.next, r.2) S2
        | .ret d => .ok (.ret d, r.2) S2
def whB (c : E) (b : Ss) (k : Bool) (S1 : Store) : Res (Flow × Env) := if k = true then (exSs F b env S1).bnd (whK F c b) else .ok (.next, env) S1
theorem whS_eq (c : E) (b : Ss) : whS F c b env S = (truR (evE F c env S)).bnd (whB F env c b) := by
  unfold whS
  rw [whL_eq]
  rfl
theorem whB_t (c : E) (b : Ss) : whB F env c b true S = (exSs F b env S).bnd (whK F c b) := rfl
theorem whB_f (c : E) (b : Ss) : whB F env c b false S = .ok (.next, env) S := rfl
theorem whK_n (c : E) (b : Ss) : whK F c b (.next, env) S = whS F c b env S := rfl
theorem whK_c (c : E) (b : Ss) : whK F c b (.cont, env) S = whS F c b env S := rfl
theorem whK_b (c : E) (b : Ss) : whK F c b (.brk, env) S = .ok (.next, env) S := rfl
theorem whK_r (c : E) (b : Ss) (d : D) : whK F c b (.ret d, env) S = .ok (.ret d, env) S := rfl
def foS (t : Tg) (b : Ss) (w : Walk) (items : List D) (env : Env) (S : Store) : Res (Flow × Env) := forL w t (fun e s => exSs F b e s) items env S
theorem xS_fo (t : Tg) (it : It) (b : Ss) : exS F (.fo t it b) env S = (evIt F it env S).bnd fun w S1 => foS F t b w w.items env S1 := by rw [exS]; rfl
def foK (t : Tg) (b : Ss) (w : Walk) (items : List D) (r : Flow × Env) (S2 : Store) : Res (Flow × Env) := match r.1 with
        | .next => foS F t b w items r.2 S2
        | .cont => foS F t b w items r.2 S2
        | .brk => .ok (.next, r.2) S2
        | .ret d => .ok (.ret d, r.2) S2
def foT (t : Tg) (b : Ss) (w : Walk) (items : List D) (S : Store) : Option Env → Res (Flow × Env)
  | some env1 => (exSs F b env1 S).bnd (foK F t b w items)
  | none => .bad
theorem fo_nil (t : Tg) (b : Ss) (w : Walk) (h : w.here S) : foS F t b w [] env S = .ok (.next, env) S := by unfold foS forL; rw [if_pos h]
theorem fo_cons (t : Tg) (b : Ss) (w : Walk) (d : D) (ds : List D) (h : w.here S) : foS F t b w (d :: ds) env S = foT F t b w ds S (asgT t d S env) := by
  unfold foS forL
  rw [if_pos h]
  cases asgT t d S env <;> rfl
theorem foT_some (t : Tg) (b : Ss) (w : Walk) (ds : List D) : foT F t b w ds S (some env) = (exSs F b env S).bnd (foK F t b w ds) := rfl
theorem foK_n (t : Tg) (b : Ss) (w : Walk) (ds : List D) : foK F t b w ds (.next, env) S = foS F t b w ds env S := rfl
theorem foK_c (t : Tg) (b : Ss) (w : Walk) (ds : List D) : foK F t b w ds (.cont, env) S = foS F t b w ds env S := rfl
theorem foK_b (t : Tg) (b : Ss) (w : Walk) (ds : List D) : foK F t b w ds (.brk, env) S = .ok (.next, env) S := rfl
theorem foK_r (t : Tg) (b : Ss) (w : Walk) (ds : List D) (d : D) : foK F t b w ds (.ret d, env) S = .ok (.ret d, env) S := rfl
theorem here_none (ds : List D) : (⟨ds, none⟩ : Walk).here S := True.intro
theorem here_some {ds : List D} {l : Nat} (h : S[l]? = some (.lst ds)) : (⟨ds, some l⟩ : Walk).here S := h
theorem xS_brk : exS F .brk env S = .ok (.brk, env) S := by rw [exS]
theorem xS_cont : exS F .cont env S = .ok (.cont, env) S := by rw [exS]
theorem xS_pass : exS F .pass env S = .ok (.next, env) S := by rw [exS]
def sqK (ss : Ss) (r : Flow × Env) (S1 : Store) : Res (Flow × Env) := match r.1 with
    | .next => exSs F ss r.2 S1
    | f => .ok (f, r.2) S1
theorem xSs_nil : exSs F .nil env S = .ok (.next, env) S := by rw [exSs]
theorem xSs_cons (s : St) (ss : Ss) : exSs F (.cons s ss) env S = (exS F s env S).bnd (sqK F ss) := by rw [exSs]; rfl
theorem sqK_n (ss : Ss) : sqK F ss (.next, env) S = exSs F ss env S := rfl
theorem sqK_r (ss : Ss) (d : D) : sqK F ss (.ret d, env) S = .ok (.ret d, env) S := rfl
theorem sqK_b (ss : Ss) : sqK F ss (.brk, env) S = .ok (.brk, env) S := rfl
theorem sqK_c (ss : Ss) : sqK F ss (.cont, env) S = .ok (.cont, env) S := rfl

/-! ### list comprehensions -/
def lcB (t : Tg) (own : List Nat) (cs : Es) (elt : E) (w : Walk) (items acc : List D) (env1 : Env) (b : Bool) (S1 : Store) : Res (List D) :=
  if b = true then (evE F elt env1 S1).bnd fun x S2 => if acc.length < LINE then lcS F env t own cs elt w items (acc ++ [x]) S2 else .bad
  else lcS F env t own cs elt w items acc S1
def lcT (t : Tg) (own : List Nat) (cs : Es) (elt : E) (w : Walk) (items acc : List D) (S : Store) : Option Env → Res (List D)
  | some env1 => (evTs F cs env1 S).bnd (lcB F env t own cs elt w items acc env1)
  | none => .bad
theorem lc_nil (t : Tg) (own : List Nat) (cs : Es) (elt : E) (w : Walk) (acc : List D) (h : w.here S) : lcS F env t own cs elt w [] acc S = .ok acc S := by unfold lcS lcL; rw [if_pos h]
theorem lc_cons (t : Tg) (own : List Nat) (cs : Es) (elt : E) (w : Walk) (d : D) (ds acc : List D) (h : w.here S) : lcS F env t own cs elt w (d :: ds) acc S = lcT F env t own cs elt w ds acc S (asgT t d S (wipeE env own)) := by
  unfold lcS lcL
  rw [if_pos h]
  cases asgT t d S (wipeE env own) <;> rfl

def l2B (t : Tg) (own : List Nat) (cs : Es) (t1 : Tg) (it1 : It) (cs1 : Es) (own1 : List Nat) (elt : E) (w : Walk) (items acc : List D) (env1 : Env) (b : Bool) (S1 : Store) : Res (List D) :=
  if b = true then (l2I F t1 it1 cs1 own1 elt env1 acc S1).bnd fun acc1 S2 => l2S F env t own cs t1 it1 cs1 own1 elt w items acc1 S2
  else l2S F env t own cs t1 it1 cs1 own1 elt w items acc S1
def l2T (t : Tg) (own : List Nat) (cs : Es) (t1 : Tg) (it1 : It) (cs1 : Es) (own1 : List Nat) (elt : E) (w : Walk) (items acc : List D) (S : Store) : Option Env → Res (List D)
  | some env1 => (evTs F cs env1 S).bnd (l2B F env t own cs t1 it1 cs1 own1 elt w items acc env1)
  | none => .bad
theorem l2_nil (t : Tg) (own : List Nat) (cs : Es) (t1 : Tg) (it1 : It) (cs1 : Es) (own1 : List Nat) (elt : E) (w : Walk) (acc : List D) (h : w.here S) : l2S F env t own cs t1 it1 cs1 own1 elt w [] acc S = .ok acc S := by unfold l2S lc2L; rw [if_pos h]
theorem l2_cons (t : Tg) (own : List Nat) (cs : Es) (t1 : Tg) (it1 : It) (cs1 : Es) (own1 : List Nat) (elt : E) (w : Walk) (d : D) (ds acc : List D) (h : w.here S) :
    l2S F env t own cs t1 it1 cs1 own1 elt w (d :: ds) acc S = l2T F env t own cs t1 it1 cs1 own1 elt w ds acc S (asgT t d S (wipeE env own)) := by
  unfold l2S lc2L
  rw [if_pos h]
  cases asgT t d S (wipeE env own) <;> rfl

/-! ### values -/
theorem new_eq (o : SO) : new S o = .ok (.loc S.length) (S ++ [o]) := rfl
theorem b_add (i j : Int) : binD .add (.int i) (.int j) S = .ok (.int (i + j)) S := rfl
theorem b_sub (i j : Int) : binD .sub (.int i) (.int j) S = .ok (.int (i - j)) S := rfl
theorem b_mul {i j : Int} (h : CMulW i j ∨ CMul i j) : binD .mul (.int i) (.int j) S = .ok (.int (i * j)) S := by
  show (if CMulW i j ∨ CMul i j then _ else _) = _
  rw [if_pos h]
theorem b_mulL {i j : Int} (h : -(2 ^ 64) < i ∧ i < 2 ^ 64) : binD .mul (.int i) (.int j) S = .ok (.int (i * j)) S := b_mul S (.inr (.inl h))
theorem b_mulR {i j : Int} (h : -(2 ^ 64) < j ∧ j < 2 ^ 64) : binD .mul (.int i) (.int j) S = .ok (.int (i * j)) S := b_mul S (.inr (.inr h))
theorem b_fdiv {i j : Int} (h : CDivW i j) : binD .fdiv (.int i) (.int j) S = .ok (.int (i / j)) S := by
  show (if CDivW i j then _ else _) = _
  rw [if_pos h]
theorem b_mod {i j : Int} (h : 0 < j) : binD .mod (.int i) (.int j) S = .ok (.int (i % j)) S := by
  show (if 0 < j then _ else _) = _
  rw [if_pos h]
theorem b_pow {i j : Int} (h : CPow i j) : binD .pow (.int i) (.int j) S = .ok (.int (i ^ j.toNat)) S := by
  show (if CPow i j then _ else _) = _
  rw [if_pos h]
theorem b_addT {xs ys : List D} (h : xs.length + ys.length ≤ LINE) : binD .add (.tup xs) (.tup ys) S = .ok (.tup (xs ++ ys)) S := by
  show (if xs.length + ys.length ≤ LINE then _ else _) = _
  rw [if_pos h]
def addL (S : Store) : Option SO → Option SO → Res D
  | some (.lst xs), some (.lst ys) => if xs.length + ys.length ≤ LINE then new S (.lst (xs ++ ys)) else .bad
  | _, _ => .bad
theorem b_addL (l m : Nat) : binD .add (.loc l) (.loc m) S = addL S S[l]? S[m]? := by
  unfold binD addL
  cases h : S[l]? with
  | none => simp only [h]
  | some o => cases o; cases h2 : S[m]? with
    | none => simp only [h, h2]
    | some o => cases o; simp only [h, h2]
theorem addL_ok {xs ys : List D} (h : xs.length + ys.length ≤ LINE) : addL S (some (.lst xs)) (some (.lst ys)) = .ok (.loc S.length) (S ++ [.lst (xs ++ ys)]) := by
  show (if xs.length + ys.length ≤ LINE then _ else _) = _
  rw [if_pos h]
  rfl
theorem b_repT {xs : List D} {k : Int} (h : xs ≠ [] ∧ 0 ≤ k ∧ k ≤ 1000 ∧ xs.length ≤ 1000) : binD .mul (.tup xs) (.int k) S = .ok (.tup (List.replicate k.toNat xs).flatten) S := by
  show (if xs ≠ [] ∧ 0 ≤ k ∧ k ≤ 1000 ∧ xs.length ≤ 1000 then _ else _) = _
  rw [if_pos h]
theorem k_lt (i j : Int) : cmpD .lt (.int i) (.int j) S = some (decide (i < j)) := rfl
theorem k_le (i j : Int) : cmpD .le (.int i) (.int j) S = some (decide (i ≤ j)) := rfl
theorem k_gt (i j : Int) : cmpD .gt (.int i) (.int j) S = some (decide (j < i)) := rfl
theorem k_ge (i j : Int) : cmpD .ge (.int i) (.int j) S = some (decide (j ≤ i)) := rfl
theorem k_eq (a b : D) : cmpD .eq a b S = eqD a b S := by cases a <;> cases b <;> rfl
theorem k_ne (a b : D) : cmpD .ne a b S = (eqD a b S).map (!·) := by cases a <;> cases b <;> rfl
theorem k_isN (a : D) : cmpD .isN a .non S = some (isNonD a) := by cases a <;> rfl
theorem k_notN (a : D) : cmpD .notN a .non S = some (!isNonD a) := by cases a <;> rfl
theorem k_in (a b : D) : cmpD .isin a b S = inD a b S := by cases a <;> cases b <;> rfl
theorem k_nin (a b : D) : cmpD .notin a b S = (inD a b S).map (!·) := by cases a <;> cases b <;> rfl
theorem tr_str {x : Str} (h : x.length ≤ LINE) : truR (.ok (.str x) S) = .ok ((x.length : Int) != 0) S := by
  unfold truR truD
  rw [bnd_ok]
  dsimp only
  rw [if_pos h]
theorem q_int (i j : Int) : eqD (.int i) (.int j) S = some (decide (i = j)) := rfl
theorem q_bl (i j : Bool) : eqD (.bl i) (.bl j) S = some (decide (i = j)) := rfl
theorem q_str (i j : Str) : eqD (.str i) (.str j) S = some (decide (i = j)) := rfl
theorem ofB_some (b : Bool) : ofB (some b) S = .ok (.bl b) S := rfl
theorem tr_bl (b : Bool) : truR (.ok (.bl b) S) = .ok b S := rfl
theorem tr_int (i : Int) : truR (.ok (.int i) S) = .ok (i != 0) S := rfl
theorem tr_non : truR (.ok .non S) = .ok false S := rfl
theorem tr_tup (ds : List D) : truR (.ok (.tup ds) S) = .ok (!ds.isEmpty) S := rfl
def trK (S : Store) : Option SO → Res Bool
  | some (.lst ds) => .ok (!ds.isEmpty) S
  | none => .bad
theorem tr_loc (l : Nat) : truR (.ok (.loc l) S) = trK S S[l]? := by
  unfold truR truD trK
  rw [bnd_ok]
  cases h : S[l]? with
  | none => simp only [h]
  | some o => cases o; simp only [h]
theorem trK_ok (ds : List D) : trK S (some (.lst ds)) = .ok (!ds.isEmpty) S := rfl
theorem td_bl (b : Bool) : truD (.bl b) S = some b := rfl
theorem td_int (i : Int) : truD (.int i) S = some (i != 0) := rfl
theorem td_tup (ds : List D) : truD (.tup ds) S = some (!ds.isEmpty) := rfl
theorem okV_some (d : D) : okV (some d) S = .ok d S := rfl
theorem i_tup (ds : List D) (i : Int) : idxD (.tup ds) (.int i) S = okV (atI ds i) S := rfl
theorem i_rls (ds : List D) (i : Int) : idxD (.rls ds) (.int i) S = okV (atI ds i) S := rfl
def idxL (S : Store) (i : Int) : Option SO → Res D
  | some (.lst ds) => okV (atI ds i) S
  | none => .bad
theorem i_loc (l : Nat) (i : Int) : idxD (.loc l) (.int i) S = idxL S i S[l]? := by
  unfold idxD seqD idxL
  cases h : S[l]? with
  | none => simp only [h]
  | some o => cases o; simp only [h]
theorem idxL_ok (i : Int) (ds : List D) : idxL S i (some (.lst ds)) = okV (atI ds i) S := rfl
theorem tupK_ok {ds : List D} (h : ds.length ≤ LINE) : tupK ds S = .ok (.tup ds) S := by unfold tupK; rw [if_pos h]
theorem lstK_ok {ds : List D} (h : ds.length ≤ LINE) : lstK ds S = .ok (.loc S.length) (S ++ [.lst ds]) := by unfold lstK; rw [if_pos h]; rfl
theorem negK_int (i : Int) : negK (.int i) S = .ok (.int (-i)) S := rfl
theorem p_abs (i : Int) : primD .abs [.int i] S = .ok (.int i.natAbs) S := by
  show Res.ok (D.int (if i < 0 then -i else i)) S = _
  congr 2
  omega
theorem p_int (i : Int) : primD .int [.int i] S = .ok (.int i) S := rfl
theorem p_intB (b : Bool) : primD .int [.bl b] S = .ok (.int (if b then 1 else 0)) S := rfl
theorem p_lenT (ds : List D) : primD .len [.tup ds] S = .ok (.int ds.length) S := rfl
theorem p_lenR (ds : List D) : primD .len [.rls ds] S = .ok (.int ds.length) S := rfl
def lenL (S : Store) : Option SO → Res D
  | some (.lst ds) => .ok (.int ds.length) S
  | none => .bad
theorem p_lenL (l : Nat) : primD .len [.loc l] S = lenL S S[l]? := by
  show pLen [.loc l] S = _
  unfold pLen seqD lenL
  cases h : S[l]? with
  | none => simp only [h]
  | some o => cases o; simp only [h]
theorem lenL_ok (ds : List D) : lenL S (some (.lst ds)) = .ok (.int ds.length) S := rfl
theorem p_max (i j : Int) : primD .max [.int i, .int j] S = .ok (.int (max i j)) S := by
  show Res.ok (D.int (if j > i then j else i)) S = _
  congr 2
  omega
theorem p_min (i j : Int) : primD .min [.int i, .int j] S = .ok (.int (min i j)) S := by
  show Res.ok (D.int (if j < i then j else i)) S = _
  congr 2
  omega
theorem p_tupT (ds : List D) : primD .tuple [.tup ds] S = .ok (.tup ds) S := rfl
def tupL (S : Store) : Option SO → Res D
  | some (.lst ds) => .ok (.tup ds) S
  | none => .bad
theorem p_tupL (l : Nat) : primD .tuple [.loc l] S = tupL S S[l]? := by
  show pTuple [.loc l] S = _
  unfold pTuple seqD tupL
  cases h : S[l]? with
  | none => simp only [h]
  | some o => cases o; simp only [h]
theorem tupL_ok (ds : List D) : tupL S (some (.lst ds)) = .ok (.tup ds) S := rfl
theorem p_lstT (ds : List D) : primD .list [.tup ds] S = .ok (.loc S.length) (S ++ [.lst ds]) := rfl
def lstL (S : Store) : Option SO → Res D
  | some (.lst ds) => .ok (.loc S.length) (S ++ [.lst ds])
  | none => .bad
theorem p_lstL (l : Nat) : primD .list [.loc l] S = lstL S S[l]? := by
  show pList [.loc l] S = _
  unfold pList seqD lstL
  cases h : S[l]? with
  | none => simp only [h]
  | some o => cases o; simp only [h]; rfl
theorem lstL_ok (ds : List D) : lstL S (some (.lst ds)) = .ok (.loc S.length) (S ++ [.lst ds]) := rfl
theorem isD_ok (t : Ty) (d : D) : ofB (isD t d) S = .ok (.bl (isK t (kdD d))) S := rfl
def appL (S : Store) (l : Nat) (d : D) : Option SO → Res D
  | some (.lst xs) => if xs.length < LINE then .ok .non (S.set l (.lst (xs ++ [d]))) else .bad
  | none => .bad
theorem m_app (l : Nat) (d : D) : methD .append (.loc l) [d] S = appL S l d S[l]? := by
  show mApp (.loc l) [d] S = _
  unfold mApp appL
  cases h : S[l]? with
  | none => simp only [h]
  | some o => cases o; simp only [h]
theorem appL_ok {xs : List D} (l : Nat) (d : D) (hl : xs.length < LINE) : appL S l d (some (.lst xs)) = .ok .non (S.set l (.lst (xs ++ [d]))) := by
  show (if xs.length < LINE then _ else _) = _
  rw [if_pos hl]
def popL (S : Store) (l : Nat) : Option SO → Res D
  | some (.lst xs) => popK xs[xs.length - 1]? (S.set l (.lst xs.dropLast))
  | none => .bad
where popK : Option D → Store → Res D
  | some d, S => .ok d S
  | none, _ => .bad
theorem m_pop (l : Nat) : methD .pop (.loc l) [] S = popL S l S[l]? := by
  show mPop (.loc l) [] S = _
  unfold mPop popL
  cases h : S[l]? with
  | none => simp only [h]
  | some o =>
    cases o with
    | lst xs =>
      simp only [h]
      cases h2 : xs[xs.length - 1]? <;> simp only [popL.popK]
theorem popL_ok (l : Nat) (xs : List D) (d : D) : popL S l (some (.lst (xs ++ [d]))) = .ok d (S.set l (.lst xs)) := by
  unfold popL
  simp [popL.popK]
def revL (S : Store) (l : Nat) : Option SO → Res D
  | some (.lst xs) => .ok .non (S.set l (.lst xs.reverse))
  | none => .bad
theorem m_rev (l : Nat) : methD .reverse (.loc l) [] S = revL S l S[l]? := by
  show mRev (.loc l) [] S = _
  unfold mRev revL
  cases h : S[l]? with
  | none => simp only [h]
  | some o => cases o; simp only [h]
theorem revL_ok (l : Nat) (xs : List D) : revL S l (some (.lst xs)) = .ok .non (S.set l (.lst xs.reverse)) := rfl
def recvL : Option SO → Bool
  | some (.lst _) => true
  | none => false
theorem recv_ok (m : Mt) (l : Nat) : recvOk m (.loc l) S = recvL S[l]? := by
  unfold recvOk recvL
  cases h : S[l]? with
  | none => simp only [h]
  | some o => cases o; simp only [h]
theorem recvL_ok (xs : List D) : recvL (some (.lst xs)) = true := rfl
def setL (S : Store) (l : Nat) (k : Int) (v : D) : Option SO → Res Unit
  | some (.lst xs) => setI xs (ixN xs.length k)
  | none => .bad
where setI (xs : List D) : Option Nat → Res Unit
  | some j => .ok () (S.set l (.lst (xs.set j v)))
  | none => .bad
theorem set_loc (l : Nat) (k : Int) (v : D) : setD (.loc l) (.int k) v S = setL S l k v S[l]? := by
  unfold setD setL
  cases h : S[l]? with
  | none => simp only [h]
  | some o =>
    cases o with
    | lst xs =>
      simp only [h]
      cases h2 : ixN xs.length k <;> simp only [setL.setI]
theorem setL_ok {l : Nat} {k : Int} {v : D} {xs : List D} : setL S l k v (some (.lst xs)) = setL.setI S l v xs (ixN xs.length k) := rfl
theorem setI_ok (l : Nat) (v : D) (xs : List D) (j : Nat) : setL.setI S l v xs (some j) = .ok () (S.set l (.lst (xs.set j v))) := rfl
end
end
end SX
namespace SX
open PySem PySem.Spec PyProof.Rows L2
noncomputable section
open Classical
local macro_rules | `(tactic| walk_at "ev") => `(tactic| simp (config := { maxSteps := 3000000 }) (disch := first | assumption | omega | exact ⟨by omega, by omega⟩ | exact ⟨⟨by omega, by omega⟩, ⟨by omega, by omega⟩⟩ | exact Nat.le_of_ble_eq_true rfl | decide) only [bnd_ok, bnd_bad, binJ_eq, binK_eq, notK_eq, cmpJ_eq, cmpK_eq, idxJ_eq, idxK_eq, calJ_eq, clkJ_eq, clkK_eq, priJ_eq, isiJ_eq, metJ_eq, metI_t, metK_eq, lcJ_eq, lcK_eq, conJ_eq, conK_eq, andJ_eq, orJ_eq, rg2J_eq, nxtK_eq, setI1_eq, setI2_eq, setI3_eq, retK_eq,  vE_var, varK_ok, vE_int, vE_bl, vE_non, vE_str, vE_tup, vE_lst, vE_bin, vE_neg, vE_not, vE_and, vE_or, vE_cmp, vE_ite, brE_t, brE_f, vE_idx, vE_slc, vE_call, vE_callk, vE_prim, vE_isin, vE_meth, vE_lc, vE_gcon, toD_int, toD_strs, vE_chain, chnI_eq, chnK_eq, chnJ_t, chnJ_f, vE_tupG, tgJ_eq, tgK_eq, vE_qual, qlK_eq, vE_sumG, smK_eq, vE_lc2, l2K_eq, vEs_nil, vEs_cons, vA_one, vA_cons, vO_one, vO_cons, andK_t, andK_f, orK_t, orK_f, vT_nil, vT_cons, vI_seq, seqK_tup, seqK_rls, seqK_loc, seqL_ok, vI_range1, rg1_int, vI_range2, rg2_int,
  xS_asg, asgK_nm, asgT_nm, asgT_tp2, asgT_tp3, asgK_tp2, asgK_tp3, xS_par, parK_2, parK_3, xS_setS, xS_aug, augV_ok, augK_add, augK_sub, xS_augS, agR_some, agD_eq, agX_eq, agI_eq, agO_eq, idxM_loc, augD_add, augD_sub, xS_expr, xS_ret, xS_retN, xS_ite, brS_t, brS_f, xS_wh, whB_t, whB_f, whK_n, whK_c, whK_b, whK_r, xS_fo, foT_some, foK_n, foK_c, foK_b, foK_r, xS_brk, xS_cont, xS_pass, xSs_nil, xSs_cons, sqK_n, sqK_r, sqK_b, sqK_c,
  b_add, b_sub, b_mul, b_mulL, b_mulR, b_fdiv, b_mod, b_pow, b_addT, b_addL, addL_ok, b_repT, k_lt, k_le, k_gt, k_ge, k_eq, k_ne, k_isN, k_notN, k_in, k_nin, tr_str, q_int, q_bl, q_str, ofB_some, Option.map_some, tr_bl, tr_int, tr_non, tr_tup, tr_loc, trK_ok, td_bl, td_int, td_tup, i_tup, i_rls, i_loc, idxL_ok, okV_some, at0, at1, at2, at3, at_m1, tupK_ok, lstK_ok, negK_int, p_abs, p_int, p_intB, p_lenT, p_lenR, p_lenL, lenL_ok, p_max, p_min, p_tupT, p_tupL, tupL_ok, p_lstT, p_lstL, lstL_ok, isD_ok, m_app, appL_ok, m_pop, popL_ok, m_rev, revL_ok, recv_ok, recvL_ok, set_loc, setL_ok, setI_ok, new_eq, Bool.not_true, Bool.not_false, if_true, eq_self, decide_true, decide_false,
  List.set_cons_zero, List.set_cons_succ, List.getElem?_cons_zero, List.getElem?_cons_succ, List.length_cons, List.length_nil, Option.some.injEq])
local macro_rules | `(tactic| walk_at "ev*") => `(tactic| simp (config := { maxSteps := 3000000 }) (disch := first | assumption | omega | exact ⟨by omega, by omega⟩ | exact ⟨⟨by omega, by omega⟩, ⟨by omega, by omega⟩⟩ | exact Nat.le_of_ble_eq_true rfl | decide) only [bnd_ok, bnd_bad, binJ_eq, binK_eq, notK_eq, cmpJ_eq, cmpK_eq, idxJ_eq, idxK_eq, calJ_eq, clkJ_eq, clkK_eq, priJ_eq, isiJ_eq, metJ_eq, metI_t, metK_eq, lcJ_eq, lcK_eq, conJ_eq, conK_eq, andJ_eq, orJ_eq, rg2J_eq, nxtK_eq, setI1_eq, setI2_eq, setI3_eq, retK_eq,  vE_var, varK_ok, vE_int, vE_bl, vE_non, vE_str, vE_tup, vE_lst, vE_bin, vE_neg, vE_not, vE_and, vE_or, vE_cmp, vE_ite, brE_t, brE_f, vE_idx, vE_slc, vE_call, vE_callk, vE_prim, vE_isin, vE_meth, vE_lc, vE_gcon, toD_int, toD_strs, vE_chain, chnI_eq, chnK_eq, chnJ_t, chnJ_f, vE_tupG, tgJ_eq, tgK_eq, vE_qual, qlK_eq, vE_sumG, smK_eq, vE_lc2, l2K_eq, vEs_nil, vEs_cons, vA_one, vA_cons, vO_one, vO_cons, andK_t, andK_f, orK_t, orK_f, vT_nil, vT_cons, vI_seq, seqK_tup, seqK_rls, seqK_loc, seqL_ok, vI_range1, rg1_int, vI_range2, rg2_int,
  xS_asg, asgK_nm, asgT_nm, asgT_tp2, asgT_tp3, asgK_tp2, asgK_tp3, xS_par, parK_2, parK_3, xS_setS, xS_aug, augV_ok, augK_add, augK_sub, xS_augS, agR_some, agD_eq, agX_eq, agI_eq, agO_eq, idxM_loc, augD_add, augD_sub, xS_expr, xS_ret, xS_retN, xS_ite, brS_t, brS_f, xS_wh, whB_t, whB_f, whK_n, whK_c, whK_b, whK_r, xS_fo, foT_some, foK_n, foK_c, foK_b, foK_r, xS_brk, xS_cont, xS_pass, xSs_nil, xSs_cons, sqK_n, sqK_r, sqK_b, sqK_c,
  b_add, b_sub, b_mul, b_mulL, b_mulR, b_fdiv, b_mod, b_pow, b_addT, b_addL, addL_ok, b_repT, k_lt, k_le, k_gt, k_ge, k_eq, k_ne, k_isN, k_notN, k_in, k_nin, tr_str, q_int, q_bl, q_str, ofB_some, Option.map_some, tr_bl, tr_int, tr_non, tr_tup, tr_loc, trK_ok, td_bl, td_int, td_tup, i_tup, i_rls, i_loc, idxL_ok, okV_some, at0, at1, at2, at3, at_m1, tupK_ok, lstK_ok, negK_int, p_abs, p_int, p_intB, p_lenT, p_lenR, p_lenL, lenL_ok, p_max, p_min, p_tupT, p_tupL, tupL_ok, p_lstT, p_lstL, lstL_ok, isD_ok, m_app, appL_ok, m_pop, popL_ok, m_rev, revL_ok, recv_ok, recvL_ok, set_loc, setL_ok, setI_ok, new_eq, Bool.not_true, Bool.not_false, if_true, eq_self, decide_true, decide_false,
  List.set_cons_zero, List.set_cons_succ, List.getElem?_cons_zero, List.getElem?_cons_succ, List.length_cons, List.length_nil, Option.some.injEq, *])
local macro_rules | `(tactic| walk_at "evs") => `(tactic| simp (config := { maxSteps := 3000000 }) (disch := first | assumption | omega | exact ⟨by omega, by omega⟩ | exact ⟨⟨by omega, by omega⟩, ⟨by omega, by omega⟩⟩ | exact Nat.le_of_ble_eq_true rfl | decide) only [bnd_ok, bnd_bad, binJ_eq, binK_eq, notK_eq, cmpJ_eq, cmpK_eq, idxJ_eq, idxK_eq, calJ_eq, clkJ_eq, clkK_eq, priJ_eq, isiJ_eq, metJ_eq, metI_t, metK_eq, lcJ_eq, lcK_eq, conJ_eq, conK_eq, andJ_eq, orJ_eq, rg2J_eq, nxtK_eq, setI1_eq, setI2_eq, setI3_eq, retK_eq,  vE_var, varK_ok, vE_int, vE_bl, vE_non, vE_str, vE_tup, vE_lst, vE_bin, vE_neg, vE_not, vE_and, vE_or, vE_cmp, vE_ite, brE_t, brE_f, vE_idx, vE_slc, vE_call, vE_callk, vE_prim, vE_isin, vE_meth, vE_lc, vE_gcon, toD_int, toD_strs, vE_chain, chnI_eq, chnK_eq, chnJ_t, chnJ_f, vE_tupG, tgJ_eq, tgK_eq, vE_qual, qlK_eq, vE_sumG, smK_eq, vE_lc2, l2K_eq, vEs_nil, vEs_cons, vA_one, vA_cons, vO_one, vO_cons, andK_t, andK_f, orK_t, orK_f, vT_nil, vT_cons, vI_seq, seqK_tup, seqK_rls, seqK_loc, seqL_ok, vI_range1, rg1_int, vI_range2, rg2_int,
  xS_asg, asgK_nm, asgT_nm, asgT_tp2, asgT_tp3, asgK_tp2, asgK_tp3, xS_par, parK_2, parK_3, xS_setS, xS_aug, augV_ok, augK_add, augK_sub, xS_augS, agR_some, agD_eq, agX_eq, agI_eq, agO_eq, idxM_loc, augD_add, augD_sub, xS_expr, xS_ret, xS_retN, xS_ite, brS_t, brS_f, xS_wh, whB_t, whB_f, whK_n, whK_c, whK_b, whK_r, xS_fo, foT_some, foK_n, foK_c, foK_b, foK_r, xS_brk, xS_cont, xS_pass, xSs_nil, xSs_cons, sqK_n, sqK_r, sqK_b, sqK_c,
  b_add, b_sub, b_mul, b_mulL, b_mulR, b_fdiv, b_mod, b_pow, b_addT, b_addL, addL_ok, b_repT, k_lt, k_le, k_gt, k_ge, k_eq, k_ne, k_isN, k_notN, k_in, k_nin, tr_str, q_int, q_bl, q_str, ofB_some, Option.map_some, tr_bl, tr_int, tr_non, tr_tup, tr_loc, trK_ok, td_bl, td_int, td_tup, i_tup, i_rls, i_loc, idxL_ok, okV_some, at0, at1, at2, at3, at_m1, tupK_ok, lstK_ok, negK_int, p_abs, p_int, p_intB, p_lenT, p_lenR, p_lenL, lenL_ok, p_max, p_min, p_tupT, p_tupL, tupL_ok, p_lstT, p_lstL, lstL_ok, isD_ok, m_app, appL_ok, m_pop, popL_ok, m_rev, revL_ok, recv_ok, recvL_ok, set_loc, setL_ok, setI_ok, new_eq, Bool.not_true, Bool.not_false, if_true, eq_self, decide_true, decide_false,
  List.set_cons_zero, List.set_cons_succ, List.getElem?_cons_zero, List.getElem?_cons_succ, List.length_cons, List.length_nil, Option.some.injEq, List.cons_append, List.nil_append, List.append_assoc, Nat.reduceAdd, st_get, st_get0, st_set, st_set0, List.length_append, Nat.add_zero, Nat.zero_add, *])

/-! ### the helpers' texts -/
def B_bag : Ss := .cons (.asg (.nm 1) (.bin .add (.lc (.prim .abs (.cons (.prim .int (.cons (.var 3) .nil)) .nil)) (.nm 3) (.seq (.var 0)) .nil [3]) (.lst (.cons (.cint 7) .nil)))) (.cons (.asg (.nm 2) (.lst .nil)) (.cons (.ite (.cmp .eq (.bin .mod (.prim .int (.cons (.idx (.var 1) (.cint 0)) .nil)) (.cint 2)) (.cint 0)) (.cons (.asg (.nm 2) (.lc (.bin .fdiv (.var 3) (.cint 2)) (.nm 3) (.seq (.var 1)) (.cons (.cmp .ge (.var 3) (.bin .pow (.cint 10) (.cint 18))) .nil) [3])) (.cons (.expr (.meth .reverse (.var 2) .nil)) .nil)) .nil) (.cons (.ret (.lst (.cons (.cint 0) (.cons (.cint 0) (.cons (.var 2) (.cons (.lc (.bin .mod (.prim .int (.cons (.var 3) .nil)) (.cint 2147483647)) (.nm 3) (.seq (.var 1)) .nil [3]) .nil)))))) .nil)))
def B_draw : Ss := .cons (.setS (.var 0) (.cint 1) (.bin .add (.idx (.var 0) (.cint 1)) (.cint 1))) (.cons (.ite (.and (.cons (.cmp .eq (.idx (.var 0) (.cint 0)) (.cint 0)) (.cons (.cmp .gt (.prim .len (.cons (.idx (.var 0) (.cint 2)) .nil)) (.cint 0)) .nil))) (.cons (.setS (.var 0) (.cint 0) (.meth .pop (.idx (.var 0) (.cint 2)) .nil)) .nil) .nil) (.cons (.ite (.cmp .gt (.idx (.var 0) (.cint 0)) (.cint 0)) (.cons (.asg (.nm 2) (.bin .mod (.prim .int (.cons (.idx (.var 0) (.cint 0)) .nil)) (.var 1))) (.cons (.setS (.var 0) (.cint 0) (.bin .fdiv (.idx (.var 0) (.cint 0)) (.var 1))) (.cons (.ret (.var 2)) .nil))) .nil) (.cons (.asg (.nm 3) (.idx (.idx (.var 0) (.cint 3)) (.bin .mod (.prim .int (.cons (.idx (.var 0) (.cint 1)) .nil)) (.prim .len (.cons (.idx (.var 0) (.cint 3)) .nil))))) (.cons (.asg (.nm 4) (.bin .mod (.prim .int (.cons (.bin .add (.bin .add (.bin .mul (.var 3) (.cint 48271)) (.bin .mul (.idx (.var 0) (.cint 1)) (.cint 69621))) (.cint 1)) .nil)) (.cint 2147483647))) (.cons (.ret (.bin .mod (.bin .fdiv (.bin .mod (.prim .int (.cons (.bin .add (.bin .add (.bin .mul (.var 4) (.var 4)) (.bin .mul (.var 4) (.cint 16807))) (.bin .mul (.idx (.var 0) (.cint 1)) (.cint 40014))) .nil)) (.cint 2147483629)) (.cint 32)) (.var 1))) .nil)))))
def B_pick (draw : Nat) : Ss := .cons (.ret (.idx (.var 1) (.call draw (.cons (.var 0) (.cons (.prim .len (.cons (.var 1) .nil)) .nil))))) .nil
def B_same (same : Nat) : Ss := .cons (.ite (.cmp .isN (.var 1) (.cnon)) (.cons (.ret (.cmp .isN (.var 0) (.cnon))) .nil) .nil) (.cons (.ite (.or (.cons (.isin .bool (.var 1)) (.cons (.isin .bool (.var 0)) .nil))) (.cons (.ret (.and (.cons (.isin .bool (.var 1)) (.cons (.isin .bool (.var 0)) (.cons (.cmp .eq (.var 0) (.var 1)) .nil))))) .nil) .nil) (.cons (.ite (.isin .int (.var 1)) (.cons (.ret (.and (.cons (.isin .int (.var 0)) (.cons (.cmp .eq (.var 0) (.var 1)) .nil)))) .nil) .nil) (.cons (.ite (.isin .str (.var 1)) (.cons (.ret (.and (.cons (.isin .str (.var 0)) (.cons (.cmp .eq (.var 0) (.var 1)) .nil)))) .nil) .nil) (.cons (.ite (.or (.cons (.not (.isin .tuple (.var 1))) (.cons (.not (.isin .tuple (.var 0))) (.cons (.cmp .ne (.prim .len (.cons (.var 0) .nil)) (.prim .len (.cons (.var 1) .nil))) .nil)))) (.cons (.ret (.cbl false)) .nil) .nil) (.cons (.fo (.nm 2) (.range1 (.prim .len (.cons (.var 1) .nil))) (.cons (.ite (.not (.call same (.cons (.idx (.var 0) (.var 2)) (.cons (.idx (.var 1) (.var 2)) .nil)))) (.cons (.ret (.cbl false)) .nil) .nil) .nil)) (.cons (.ret (.cbl true)) .nil))))))
def B_gcdF : Ss := .cons (.par [0, 1] (.cons (.prim .abs (.cons (.var 0) .nil)) (.cons (.prim .abs (.cons (.var 1) .nil)) .nil))) (.cons (.fo (.nm 2) (.range1 (.cint 100000)) (.cons (.ite (.cmp .eq (.var 1) (.cint 0)) (.cons (.brk) .nil) .nil) (.cons (.par [0, 1] (.cons (.var 1) (.cons (.bin .mod (.prim .int (.cons (.var 0) .nil)) (.var 1)) .nil))) .nil))) (.cons (.ret (.var 0)) .nil))
def B_gcdW : Ss := .cons (.par [0, 1] (.cons (.prim .abs (.cons (.var 0) .nil)) (.cons (.prim .abs (.cons (.var 1) .nil)) .nil))) (.cons (.wh (.cmp .ne (.var 1) (.cint 0)) (.cons (.par [0, 1] (.cons (.var 1) (.cons (.bin .mod (.prim .int (.cons (.var 0) .nil)) (.var 1)) .nil))) .nil)) (.cons (.ret (.var 0)) .nil))
def B_divisor : Ss := .cons (.par [0, 1] (.cons (.prim .abs (.cons (.var 0) .nil)) (.cons (.prim .abs (.cons (.var 1) .nil)) .nil))) (.cons (.wh (.var 1) (.cons (.par [0, 1] (.cons (.var 1) (.cons (.bin .mod (.var 0) (.var 1)) .nil))) .nil)) (.cons (.ret (.var 0)) .nil))
def B_fr (gcd : Nat) : Ss := .cons (.asg (.nm 2) (.call gcd (.cons (.var 0) (.cons (.var 1) .nil)))) (.cons (.ret (.tup (.cons (.bin .fdiv (.var 0) (.var 2)) (.cons (.bin .fdiv (.var 1) (.var 2)) .nil)))) .nil)
def B_plus (fr : Nat) : Ss := .cons (.ret (.call fr (.cons (.bin .add (.bin .mul (.idx (.var 0) (.cint 0)) (.idx (.var 1) (.cint 1))) (.bin .mul (.idx (.var 1) (.cint 0)) (.idx (.var 0) (.cint 1)))) (.cons (.bin .mul (.idx (.var 0) (.cint 1)) (.idx (.var 1) (.cint 1))) .nil)))) .nil
def B_times (fr : Nat) : Ss := .cons (.ret (.call fr (.cons (.bin .mul (.idx (.var 0) (.cint 0)) (.idx (.var 1) (.cint 0))) (.cons (.bin .mul (.idx (.var 0) (.cint 1)) (.idx (.var 1) (.cint 1))) .nil)))) .nil
def B_more : Ss := .cons (.ret (.ite (.cmp .lt (.bin .mul (.idx (.var 0) (.cint 0)) (.idx (.var 1) (.cint 1))) (.bin .mul (.idx (.var 1) (.cint 0)) (.idx (.var 0) (.cint 1)))) (.var 1) (.var 0))) .nil
def B_gap (fr : Nat) : Ss := .cons (.ret (.call fr (.cons (.prim .abs (.cons (.bin .sub (.bin .mul (.idx (.var 0) (.cint 0)) (.idx (.var 1) (.cint 1))) (.bin .mul (.idx (.var 1) (.cint 0)) (.idx (.var 0) (.cint 1)))) .nil)) (.cons (.bin .mul (.idx (.var 0) (.cint 1)) (.idx (.var 1) (.cint 1))) .nil)))) .nil
def B_less : Ss := .cons (.ret (.cmp .lt (.bin .mul (.idx (.var 0) (.cint 0)) (.idx (.var 1) (.cint 1))) (.bin .mul (.idx (.var 1) (.cint 0)) (.idx (.var 0) (.cint 1))))) .nil
def B_greater (less : Nat) : Ss := .cons (.ret (.ite (.call less (.cons (.var 0) (.cons (.var 1) .nil))) (.var 1) (.var 0))) .nil

/-! ### gcd -/
theorem gcdW_loop (F : Fns) (c : E) (S : Store) (hc : ∀ x y : Int, truR (evE F c [some (.int x), some (.int y)] S) = .ok (decide (y ≠ 0)) S) (b : Ss)
    (hb : ∀ x y : Nat, y ≠ 0 → exSs F b [some (.int x), some (.int y)] S = .ok (.next, [some (.int y), some (.int ((x % y : Nat) : Int))]) S) :
    ∀ (y x : Nat), whS F c b [some (.int x), some (.int y)] S = .ok (.next, [some (.int (Nat.gcd x y)), some (.int 0)]) S := by
  intro y
  induction y using Nat.strongRecOn with
  | _ y ih =>
    intro x
    rw [whS_eq, hc]
    by_cases hy : y = 0
    · subst hy
      rw [show decide (((0 : Nat) : Int) ≠ 0) = false from rfl, bnd_ok, whB_f]
      simp
    · rw [show decide ((y : Int) ≠ 0) = true from decide_eq_true (by omega), bnd_ok, whB_t, hb x y hy, bnd_ok, whK_n, ih (x % y) (Nat.mod_lt _ (by omega)) y]
      rw [Nat.gcd_comm x y, Nat.gcd_rec y x, Nat.gcd_comm]
theorem e_divisor {P : Prg} {f : Nat} (hf : P f = some ⟨2, 2, B_divisor, true⟩) (n : Nat) (a b : Int) (S : Store) : callN P (n + 1) f [.int a, .int b] S = .ok (.int (Int.gcd a b)) S := by
  rw [callN_eq n _ _ hf rfl (Nat.le_of_ble_eq_true rfl)]
  refine end_pure (env := [some (.int (Int.gcd a b)), some (.int 0)]) ?_ rfl rfl
  show exSs (callN P n) B_divisor [some (.int a), some (.int b)] S = _
  unfold B_divisor
  have := gcdW_loop (callN P n) (.var 1) S (fun x y => by walk_at "ev"; simp [bne]; rfl) (.cons (.par [0, 1] (.cons (.var 1) (.cons (.bin .mod (.var 0) (.var 1)) .nil))) .nil) (fun x y hy => by
    have h2 : (0 : Int) < y := by omega
    walk_at "ev"
    simp) b.natAbs a.natAbs
  walk_at "ev"
  rw [this]
  walk_at "ev"
  rfl
theorem e_gcdW {P : Prg} {f : Nat} (hf : P f = some ⟨2, 2, B_gcdW, true⟩) (n : Nat) (a b : Int) (S : Store) : callN P (n + 1) f [.int a, .int b] S = .ok (.int (Int.gcd a b)) S := by
  rw [callN_eq n _ _ hf rfl (Nat.le_of_ble_eq_true rfl)]
  refine end_pure (env := [some (.int (Int.gcd a b)), some (.int 0)]) ?_ rfl rfl
  show exSs (callN P n) B_gcdW [some (.int a), some (.int b)] S = _
  unfold B_gcdW
  have := gcdW_loop (callN P n) (.cmp .ne (.var 1) (.cint 0)) S (fun x y => by walk_at "ev"; simp) (.cons (.par [0, 1] (.cons (.var 1) (.cons (.bin .mod (.prim .int (.cons (.var 0) .nil)) (.var 1)) .nil))) .nil) (fun x y hy => by
    have h2 : (0 : Int) < y := by omega
    walk_at "ev"
    simp) b.natAbs a.natAbs
  walk_at "ev"
  rw [this]
  walk_at "ev"
  rfl
theorem gcdF_loop (F : Fns) (S : Store) (w : Walk) (hw : w.here S) : ∀ (k : Nat) (items : List D) (x y : Nat) (o : Option D), 2 * k + 1 ≤ items.length → y < 2 ^ k →
    ∃ o', foS F (.nm 2) (.cons (.ite (.cmp .eq (.var 1) (.cint 0)) (.cons (.brk) .nil) .nil) (.cons (.par [0, 1] (.cons (.var 1) (.cons (.bin .mod (.prim .int (.cons (.var 0) .nil)) (.var 1)) .nil))) .nil)) w items [some (.int x), some (.int y), o] S
      = .ok (.next, [some (.int (Nat.gcd x y)), some (.int 0), o']) S := by
  have zero : ∀ (items : List D) (x : Nat) (o : Option D), 1 ≤ items.length → ∃ o', foS F (.nm 2) (.cons (.ite (.cmp .eq (.var 1) (.cint 0)) (.cons (.brk) .nil) .nil) (.cons (.par [0, 1] (.cons (.var 1) (.cons (.bin .mod (.prim .int (.cons (.var 0) .nil)) (.var 1)) .nil))) .nil)) w items [some (.int x), some (.int ((0 : Nat) : Int)), o] S
      = .ok (.next, [some (.int (Nat.gcd x 0)), some (.int 0), o']) S := by
    intro items x o hi
    cases items with
    | nil => simp at hi
    | cons d ds =>
      refine ⟨some d, ?_⟩
      rw [fo_cons _ _ _ _ _ _ _ _ hw]
      simp only [asgT]
      walk_at "ev"
      simp
      walk_at "ev"
  have one : ∀ (d : D) (ds : List D) (x y : Nat) (o : Option D), y ≠ 0 → foS F (.nm 2) (.cons (.ite (.cmp .eq (.var 1) (.cint 0)) (.cons (.brk) .nil) .nil) (.cons (.par [0, 1] (.cons (.var 1) (.cons (.bin .mod (.prim .int (.cons (.var 0) .nil)) (.var 1)) .nil))) .nil)) w (d :: ds) [some (.int x), some (.int y), o] S
      = foS F (.nm 2) (.cons (.ite (.cmp .eq (.var 1) (.cint 0)) (.cons (.brk) .nil) .nil) (.cons (.par [0, 1] (.cons (.var 1) (.cons (.bin .mod (.prim .int (.cons (.var 0) .nil)) (.var 1)) .nil))) .nil)) w ds [some (.int y), some (.int ((x % y : Nat) : Int)), some d] S := by
    intro d ds x y o hy
    have h2 : (0 : Int) < y := by omega
    have h3 : decide ((y : Int) = 0) = false := decide_eq_false (by omega)
    rw [fo_cons _ _ _ _ _ _ _ _ hw]
    simp only [asgT]
    walk_at "ev"
    rw [h3]
    walk_at "ev"
    simp
  intro k
  induction k with
  | zero =>
    intro items x y o hi hy
    have : y = 0 := by simpa using hy
    subst this
    exact zero items x o (by omega)
  | succ k ih =>
    intro items x y o hi hy
    by_cases h0 : y = 0
    · subst h0
      exact zero items x o (by omega)
    · cases items with
      | nil => simp at hi
      | cons d ds =>
        rw [one d ds x y o h0]
        have g1 : Nat.gcd x y = Nat.gcd y (x % y) := by rw [Nat.gcd_comm x y, Nat.gcd_rec y x, Nat.gcd_comm]
        rw [g1]
        have hz := Nat.mod_lt x (show 0 < y by omega)
        by_cases hz0 : x % y = 0
        · rw [hz0]
          simp only [List.length_cons] at hi
          exact zero ds y _ (by omega)
        · cases ds with
          | nil => simp at hi
          | cons e es =>
            rw [one e es y (x % y) _ hz0]
            have g2 : Nat.gcd y (x % y) = Nat.gcd (x % y) (y % (x % y)) := by rw [Nat.gcd_comm y, Nat.gcd_rec (x % y) y, Nat.gcd_comm]
            rw [g2]
            refine ih es (x % y) (y % (x % y)) _ (by simp only [List.length_cons] at hi; omega) ?_
            have h5 := Nat.mod_lt y (show 0 < x % y by omega)
            by_cases h6 : x % y ≤ 2 ^ k
            · omega
            · have h7 : y % (x % y) ≤ y - x % y := by
                rw [Nat.mod_eq_sub_mod (by omega)]
                exact Nat.mod_le _ _
              rw [Nat.pow_succ] at hy
              omega
theorem rng_len (lo hi : Int) : (rngK lo hi).length = (hi - lo).toNat := by unfold rngK; simp
theorem e_gcdF {P : Prg} {f : Nat} (hf : P f = some ⟨2, 3, B_gcdF, true⟩) (n : Nat) (a b : Int) (S : Store) (hb : b.natAbs < 2 ^ 40000) : callN P (n + 1) f [.int a, .int b] S = .ok (.int (Int.gcd a b)) S := by
  rw [callN_eq n _ _ hf rfl (Nat.le_of_ble_eq_true rfl)]
  obtain ⟨o, ho⟩ := gcdF_loop (callN P n) S ⟨rngK 0 100000, none⟩ True.intro 40000 (rngK 0 100000) a.natAbs b.natAbs none (by rw [rng_len]; decide) hb
  refine end_pure (env := [some (.int (Int.gcd a b)), some (.int 0), o]) ?_ rfl rfl
  show exSs (callN P n) B_gcdF [some (.int a), some (.int b), none] S = _
  unfold B_gcdF
  walk_at "ev"
  rw [ho]
  walk_at "ev"
  rfl

/-! ### fractions -/
def frD (p : Int × Int) : D := .tup [.int p.1, .int p.2]
def lowF (a b : Int) : Int × Int := (a / (Int.gcd a b : Int), b / (Int.gcd a b : Int))
def plusF (p q : Int × Int) : Int × Int := lowF (p.1 * q.2 + q.1 * p.2) (p.2 * q.2)
def timesF (p q : Int × Int) : Int × Int := lowF (p.1 * q.1) (p.2 * q.2)
def moreF (p q : Int × Int) : Int × Int := if p.1 * q.2 < q.1 * p.2 then q else p
structure Sm (p : Int × Int) : Prop where
  n : p.1.natAbs < 2 ^ 3000
  pos : 0 < p.2
  d : p.2.natAbs < 2 ^ 3000
theorem cl_fr (n : Nat) (p : Int × Int) : clD n (frD p) = true := rfl
def GcdOk (P : Prg) (g : Nat) : Prop := ∀ (n : Nat) (a b : Int) (S : Store), b.natAbs < 2 ^ 40000 → callN P (n + 1) g [.int a, .int b] S = .ok (.int (Int.gcd a b)) S
def FrOk (P : Prg) (f : Nat) : Prop := ∀ (n : Nat) (a b : Int) (S : Store), 0 < b → b.natAbs < 2 ^ 8000 → callN P (n + 2) f [.int a, .int b] S = .ok (frD (lowF a b)) S
def PlusOk (P : Prg) (f : Nat) : Prop := ∀ (n : Nat) (p q : Int × Int) (S : Store), Sm p → Sm q → callN P (n + 3) f [frD p, frD q] S = .ok (frD (plusF p q)) S
def TimesOk (P : Prg) (f : Nat) : Prop := ∀ (n : Nat) (p q : Int × Int) (S : Store), Sm p → Sm q → callN P (n + 3) f [frD p, frD q] S = .ok (frD (timesF p q)) S
def MoreOk (P : Prg) (f : Nat) : Prop := ∀ (n : Nat) (p q : Int × Int) (S : Store), Sm p → Sm q → callN P (n + 2) f [frD p, frD q] S = .ok (frD (moreF p q)) S
theorem pow_le_pow {a b : Nat} (h : a ≤ b) : (2 : Nat) ^ a ≤ 2 ^ b := Nat.pow_le_pow_right (by decide) h
theorem gcd_pos {a b : Int} (h : 0 < b) : 0 < Int.gcd a b := Int.gcd_pos_of_ne_zero_right a (by omega)
theorem gcd_le {a b : Int} (h : 0 < b) : Int.gcd a b ≤ b.natAbs := Int.gcd_le_natAbs_right a (by omega)
theorem cdiv_gcd {a b : Int} (h : 0 < b) (hb : b.natAbs < 2 ^ 8000) : CDivW x (Int.gcd a b : Int) := by
  have h1 := gcd_pos (a := a) h
  have h2 := gcd_le (a := a) h
  exact wide_div (b := 8000) (by omega) (by rw [Int.natAbs_natCast]; omega) (by decide) (by decide)
theorem gcdOk_W {P : Prg} {g : Nat} (h : P g = some ⟨2, 2, B_gcdW, true⟩) : GcdOk P g := fun n a b S _ => e_gcdW h n a b S
theorem gcdOk_F {P : Prg} {g : Nat} (h : P g = some ⟨2, 3, B_gcdF, true⟩) : GcdOk P g := fun n a b S hb => e_gcdF h n a b S hb
theorem gcdOk_D {P : Prg} {g : Nat} (h : P g = some ⟨2, 2, B_divisor, true⟩) : GcdOk P g := fun n a b S _ => e_divisor h n a b S
theorem frOk {P : Prg} {f g : Nat} (h : P f = some ⟨2, 3, B_fr g, true⟩) (hg : GcdOk P g) : FrOk P f := by
  intro n a b S h0 hb
  rw [callN_eq (n + 1) _ _ h rfl (Nat.le_of_ble_eq_true rfl)]
  refine end_pure (env := [some (.int a), some (.int b), some (.int (Int.gcd a b))]) ?_ rfl rfl
  show exSs (callN P (n + 1)) (B_fr g) [some (.int a), some (.int b), none] S = _
  unfold B_fr
  have e := hg n a b S (Nat.lt_of_lt_of_le hb (pow_le_pow (by decide)))
  have c1 : CDivW a (Int.gcd a b : Int) := cdiv_gcd h0 hb
  have c2 : CDivW b (Int.gcd a b : Int) := cdiv_gcd h0 hb
  walk_at "ev"
  rw [e]
  walk_at "ev"
  rfl
theorem sm_mul {a b : Int} (ha : a.natAbs < 2 ^ 3000) (hb : b.natAbs < 2 ^ 3000) : CMulW a b ∨ CMul a b := cmul_wide ha hb (by decide) (by decide) (by decide)
theorem sm_den {p q : Int × Int} (hp : Sm p) (hq : Sm q) : 0 < p.2 * q.2 ∧ (p.2 * q.2).natAbs < 2 ^ 8000 := by
  refine ⟨Int.mul_pos hp.pos hq.pos, Nat.lt_of_lt_of_le (wide_lt hp.d hq.d) (pow_le_pow (by decide))⟩
theorem plusOk {P : Prg} {f g : Nat} (h : P f = some ⟨2, 2, B_plus g, true⟩) (hg : FrOk P g) : PlusOk P f := by
  intro n p q S hp hq
  rw [callN_eq (n + 2) _ _ h rfl (Nat.le_of_ble_eq_true rfl)]
  refine end_pure (env := [some (frD p), some (frD q)]) ?_ rfl rfl
  show exSs (callN P (n + 2)) (B_plus g) [some (frD p), some (frD q)] S = _
  unfold B_plus frD
  have c1 := sm_mul hp.n hq.d
  have c2 := sm_mul hq.n hp.d
  have c3 := sm_mul hp.d hq.d
  have d := sm_den hp hq
  walk_at "ev"
  rw [hg n _ _ S d.1 d.2]
  walk_at "ev"
  rfl
theorem timesOk {P : Prg} {f g : Nat} (h : P f = some ⟨2, 2, B_times g, true⟩) (hg : FrOk P g) : TimesOk P f := by
  intro n p q S hp hq
  rw [callN_eq (n + 2) _ _ h rfl (Nat.le_of_ble_eq_true rfl)]
  refine end_pure (env := [some (frD p), some (frD q)]) ?_ rfl rfl
  show exSs (callN P (n + 2)) (B_times g) [some (frD p), some (frD q)] S = _
  unfold B_times frD
  have c1 := sm_mul hp.n hq.n
  have c3 := sm_mul hp.d hq.d
  have d := sm_den hp hq
  walk_at "ev"
  rw [hg n _ _ S d.1 d.2]
  walk_at "ev"
  rfl
theorem moreOk {P : Prg} {f : Nat} (h : P f = some ⟨2, 2, B_more, true⟩) : MoreOk P f := by
  intro n p q S hp hq
  rw [callN_eq (n + 1) _ _ h rfl (Nat.le_of_ble_eq_true rfl)]
  refine end_pure (env := [some (frD p), some (frD q)]) ?_ rfl rfl
  show exSs (callN P (n + 1)) B_more [some (frD p), some (frD q)] S = _
  unfold B_more frD moreF
  have c1 := sm_mul hp.n hq.d
  have c2 := sm_mul hq.n hp.d
  walk_at "ev"
  by_cases hc : p.1 * q.2 < q.1 * p.2
  · rw [decide_eq_true hc, if_pos hc]
    walk_at "ev"
  · rw [decide_eq_false hc, if_neg hc]
    walk_at "ev"
theorem e_less {P : Prg} {f : Nat} (h : P f = some ⟨2, 2, B_less, true⟩) (n : Nat) (p q : Int × Int) (S : Store) (hp : Sm p) (hq : Sm q) : callN P (n + 1) f [frD p, frD q] S = .ok (.bl (decide (p.1 * q.2 < q.1 * p.2))) S := by
  rw [callN_eq n _ _ h rfl (Nat.le_of_ble_eq_true rfl)]
  refine end_pure (env := [some (frD p), some (frD q)]) ?_ rfl rfl
  show exSs (callN P n) B_less [some (frD p), some (frD q)] S = _
  unfold B_less frD
  have c1 := sm_mul hp.n hq.d
  have c2 := sm_mul hq.n hp.d
  walk_at "ev"
theorem greaterOk {P : Prg} {f g : Nat} (h : P f = some ⟨2, 2, B_greater g, true⟩) (hg : P g = some ⟨2, 2, B_less, true⟩) : MoreOk P f := by
  intro n p q S hp hq
  rw [callN_eq (n + 1) _ _ h rfl (Nat.le_of_ble_eq_true rfl)]
  refine end_pure (env := [some (frD p), some (frD q)]) ?_ rfl rfl
  show exSs (callN P (n + 1)) (B_greater g) [some (frD p), some (frD q)] S = _
  unfold B_greater moreF
  have e := e_less hg n p q S hp hq
  walk_at "ev"
  rw [e]
  walk_at "ev"
  by_cases hc : p.1 * q.2 < q.1 * p.2
  · rw [decide_eq_true hc, if_pos hc]
    walk_at "ev"
  · rw [decide_eq_false hc, if_neg hc]
    walk_at "ev"

/-! ### the size of fractions -/
/-- the lower part divides D, the worth is at most V -/
structure Fb (D V : Nat) (p : Int × Int) : Prop where
  pos : 0 < p.2
  dvd : p.2 ∣ (D : Int)
  le : p.1.natAbs ≤ V * p.2.natAbs
theorem Fb.mono {D V W : Nat} {p : Int × Int} (h : Fb D V p) (hw : V ≤ W) : Fb D W p := ⟨h.pos, h.dvd, Nat.le_trans h.le (Nat.mul_le_mul_right _ hw)⟩
theorem Fb.up {D E V : Nat} {p : Int × Int} (h : Fb D V p) (hw : D ∣ E) : Fb E V p := ⟨h.pos, Int.dvd_trans h.dvd (Int.natCast_dvd_natCast.mpr hw), h.le⟩
theorem Fb.sm {D V : Nat} {p : Int × Int} (h : Fb D V p) (h0 : 0 < D) (h1 : D < 2 ^ 1500) (h2 : V < 2 ^ 1500) : Sm p := by
  have h3 : p.2.natAbs ≤ D := Nat.le_of_dvd h0 (Int.natCast_dvd_natCast.mp ((Int.natAbs_dvd).mpr h.dvd))
  have h4 : p.2.natAbs < 2 ^ 1500 := Nat.lt_of_le_of_lt h3 h1
  refine ⟨?_, h.pos, Nat.lt_of_lt_of_le h4 (pow_le_pow (by decide))⟩
  have h5 := h.le
  have h6 : V * p.2.natAbs < 2 ^ 1500 * 2 ^ 1500 := Nat.mul_lt_mul'' h2 h4
  rw [← Nat.pow_add] at h6
  omega
theorem low_parts {a b : Int} (h : 0 < b) : ∃ u v : Int, ∃ g : Nat, 0 < g ∧ lowF a b = (u, v) ∧ a = g * u ∧ b = g * v ∧ 0 < v ∧ Int.gcd u v = 1 := by
  have hg := gcd_pos (a := a) h
  obtain ⟨u, hu⟩ : (Int.gcd a b : Int) ∣ a := Int.gcd_dvd_left ..
  obtain ⟨v, hv⟩ : (Int.gcd a b : Int) ∣ b := Int.gcd_dvd_right ..
  generalize hG : Int.gcd a b = g at *
  have h1 : a / (g : Int) = u := by rw [hu]; exact Int.mul_ediv_cancel_left _ (by omega)
  have h2 : b / (g : Int) = v := by rw [hv]; exact Int.mul_ediv_cancel_left _ (by omega)
  refine ⟨u, v, g, hg, ?_, hu, hv, ?_, ?_⟩
  · unfold lowF
    rw [hG, h1, h2]
  · rcases Int.lt_or_le 0 v with z | z
    · exact z
    · have := Int.mul_nonpos_of_nonneg_of_nonpos (a := (g : Int)) (by omega) z
      omega
  · have e : Int.gcd (g * u) (g * v) = g * Int.gcd u v := by rw [Int.gcd_mul_left, Int.natAbs_natCast]
    rw [← hu, ← hv, hG] at e
    have : g * 1 = g * Int.gcd u v := by omega
    exact (Nat.eq_of_mul_eq_mul_left hg this).symm
theorem low_fb {a b : Int} {D V : Nat} (h : 0 < b) (hd : b ∣ a * D) (hv : a.natAbs ≤ V * b.natAbs) : Fb D V (lowF a b) := by
  obtain ⟨u, v, g, hg, e, ha, hb, hv0, hc⟩ := low_parts (a := a) h
  rw [e]
  refine ⟨hv0, ?_, ?_⟩
  · rw [ha, hb, Int.mul_assoc] at hd
    have : v ∣ u * D := Int.dvd_of_mul_dvd_mul_left (by omega) hd
    have h9 := Int.natAbs_dvd_natAbs.mpr this
    rw [Int.natAbs_mul] at h9
    have hc' : Nat.Coprime v.natAbs u.natAbs := by
      show Nat.gcd v.natAbs u.natAbs = 1
      rw [Nat.gcd_comm]; exact hc
    exact Int.natAbs_dvd_natAbs.mp (hc'.dvd_of_dvd_mul_left h9)
  · rw [ha, hb, Int.natAbs_mul, Int.natAbs_mul, Int.natAbs_natCast, Nat.mul_left_comm] at hv
    exact Nat.le_of_mul_le_mul_left hv hg
theorem fb_fr {a b : Int} {D V : Nat} (h : 0 < b) (hd : b ∣ (D : Int)) (hv : a.natAbs ≤ V * b.natAbs) : Fb D V (lowF a b) := low_fb h (Int.dvd_trans hd (Int.dvd_mul_left _ _)) hv
theorem fb_plus {D V W : Nat} {p q : Int × Int} (hp : Fb D V p) (hq : Fb D W q) : Fb D (V + W) (plusF p q) := by
  unfold plusF
  refine low_fb (Int.mul_pos hp.pos hq.pos) ?_ ?_
  · rw [Int.add_mul]
    obtain ⟨u, hu⟩ := hp.dvd
    obtain ⟨v, hv⟩ := hq.dvd
    refine Int.dvd_add ?_ ?_
    · conv => rhs; rhs; rw [hu]
      refine ⟨p.1 * u, ?_⟩
      simp only [Int.mul_assoc, Int.mul_left_comm, Int.mul_comm]
    · conv => rhs; rhs; rw [hv]
      refine ⟨q.1 * v, ?_⟩
      simp only [Int.mul_assoc, Int.mul_left_comm, Int.mul_comm]
  · have h1 := hp.le
    have h2 := hq.le
    refine Nat.le_trans (Int.natAbs_add_le _ _) ?_
    rw [Int.natAbs_mul, Int.natAbs_mul, Int.natAbs_mul, Nat.add_mul]
    have h3 := Nat.mul_le_mul_right q.2.natAbs h1
    have h4 := Nat.mul_le_mul_right p.2.natAbs h2
    have e3 : V * p.2.natAbs * q.2.natAbs = V * (p.2.natAbs * q.2.natAbs) := Nat.mul_assoc ..
    have e4 : W * q.2.natAbs * p.2.natAbs = W * (p.2.natAbs * q.2.natAbs) := by rw [Nat.mul_assoc, Nat.mul_comm q.2.natAbs]
    omega
theorem fb_times {D E V W : Nat} {p q : Int × Int} (hp : Fb D V p) (hq : Fb E W q) : Fb (D * E) (V * W) (timesF p q) := by
  unfold timesF
  refine low_fb (Int.mul_pos hp.pos hq.pos) ?_ ?_
  · rw [Int.natCast_mul]
    exact Int.dvd_trans (Int.mul_dvd_mul hp.dvd hq.dvd) (Int.dvd_mul_left _ _)
  · rw [Int.natAbs_mul, Int.natAbs_mul]
    have := Nat.mul_le_mul hp.le hq.le
    have e : V * p.2.natAbs * (W * q.2.natAbs) = V * W * (p.2.natAbs * q.2.natAbs) := by simp only [Nat.mul_assoc, Nat.mul_left_comm]
    omega
theorem fb_more {D V : Nat} {p q : Int × Int} (hp : Fb D V p) (hq : Fb D V q) : Fb D V (moreF p q) := by
  unfold moreF
  split
  · exact hq
  · exact hp
theorem fb_lit {a b : Int} {D V : Nat} (h : 0 < b) (hd : b ∣ (D : Int)) (hv : a.natAbs ≤ V * b.natAbs) : Fb D V (a, b) := ⟨h, hd, hv⟩
end
end SX
namespace SX
open PySem PySem.Spec PyProof.Rows L2
noncomputable section
open Classical
local macro_rules | `(tactic| walk_at "ev") => `(tactic| simp (config := { maxSteps := 3000000 }) (disch := first | assumption | omega | exact ⟨by omega, by omega⟩ | exact ⟨⟨by omega, by omega⟩, ⟨by omega, by omega⟩⟩ | exact Nat.le_of_ble_eq_true rfl | decide) only [bnd_ok, bnd_bad, binJ_eq, binK_eq, notK_eq, cmpJ_eq, cmpK_eq, idxJ_eq, idxK_eq, calJ_eq, clkJ_eq, clkK_eq, priJ_eq, isiJ_eq, metJ_eq, metI_t, metK_eq, lcJ_eq, lcK_eq, conJ_eq, conK_eq, andJ_eq, orJ_eq, rg2J_eq, nxtK_eq, setI1_eq, setI2_eq, setI3_eq, retK_eq,  vE_var, varK_ok, vE_int, vE_bl, vE_non, vE_str, vE_tup, vE_lst, vE_bin, vE_neg, vE_not, vE_and, vE_or, vE_cmp, vE_ite, brE_t, brE_f, vE_idx, vE_slc, vE_call, vE_callk, vE_prim, vE_isin, vE_meth, vE_lc, vE_gcon, toD_int, toD_strs, vE_chain, chnI_eq, chnK_eq, chnJ_t, chnJ_f, vE_tupG, tgJ_eq, tgK_eq, vE_qual, qlK_eq, vE_sumG, smK_eq, vE_lc2, l2K_eq, vEs_nil, vEs_cons, vA_one, vA_cons, vO_one, vO_cons, andK_t, andK_f, orK_t, orK_f, vT_nil, vT_cons, vI_seq, seqK_tup, seqK_rls, seqK_loc, seqL_ok, vI_range1, rg1_int, vI_range2, rg2_int,
  xS_asg, asgK_nm, asgT_nm, asgT_tp2, asgT_tp3, asgK_tp2, asgK_tp3, xS_par, parK_2, parK_3, xS_setS, xS_aug, augV_ok, augK_add, augK_sub, xS_augS, agR_some, agD_eq, agX_eq, agI_eq, agO_eq, idxM_loc, augD_add, augD_sub, xS_expr, xS_ret, xS_retN, xS_ite, brS_t, brS_f, xS_wh, whB_t, whB_f, whK_n, whK_c, whK_b, whK_r, xS_fo, foT_some, foK_n, foK_c, foK_b, foK_r, xS_brk, xS_cont, xS_pass, xSs_nil, xSs_cons, sqK_n, sqK_r, sqK_b, sqK_c,
  b_add, b_sub, b_mul, b_mulL, b_mulR, b_fdiv, b_mod, b_pow, b_addT, b_addL, addL_ok, b_repT, k_lt, k_le, k_gt, k_ge, k_eq, k_ne, k_isN, k_notN, k_in, k_nin, tr_str, q_int, q_bl, q_str, ofB_some, Option.map_some, tr_bl, tr_int, tr_non, tr_tup, tr_loc, trK_ok, td_bl, td_int, td_tup, i_tup, i_rls, i_loc, idxL_ok, okV_some, at0, at1, at2, at3, at_m1, tupK_ok, lstK_ok, negK_int, p_abs, p_int, p_intB, p_lenT, p_lenR, p_lenL, lenL_ok, p_max, p_min, p_tupT, p_tupL, tupL_ok, p_lstT, p_lstL, lstL_ok, isD_ok, m_app, appL_ok, m_pop, popL_ok, m_rev, revL_ok, recv_ok, recvL_ok, set_loc, setL_ok, setI_ok, new_eq, Bool.not_true, Bool.not_false, if_true, eq_self, decide_true, decide_false,
  List.set_cons_zero, List.set_cons_succ, List.getElem?_cons_zero, List.getElem?_cons_succ, List.length_cons, List.length_nil, Option.some.injEq])
local macro_rules | `(tactic| walk_at "ev*") => `(tactic| simp (config := { maxSteps := 3000000 }) (disch := first | assumption | omega | exact ⟨by omega, by omega⟩ | exact ⟨⟨by omega, by omega⟩, ⟨by omega, by omega⟩⟩ | exact Nat.le_of_ble_eq_true rfl | decide) only [bnd_ok, bnd_bad, binJ_eq, binK_eq, notK_eq, cmpJ_eq, cmpK_eq, idxJ_eq, idxK_eq, calJ_eq, clkJ_eq, clkK_eq, priJ_eq, isiJ_eq, metJ_eq, metI_t, metK_eq, lcJ_eq, lcK_eq, conJ_eq, conK_eq, andJ_eq, orJ_eq, rg2J_eq, nxtK_eq, setI1_eq, setI2_eq, setI3_eq, retK_eq,  vE_var, varK_ok, vE_int, vE_bl, vE_non, vE_str, vE_tup, vE_lst, vE_bin, vE_neg, vE_not, vE_and, vE_or, vE_cmp, vE_ite, brE_t, brE_f, vE_idx, vE_slc, vE_call, vE_callk, vE_prim, vE_isin, vE_meth, vE_lc, vE_gcon, toD_int, toD_strs, vE_chain, chnI_eq, chnK_eq, chnJ_t, chnJ_f, vE_tupG, tgJ_eq, tgK_eq, vE_qual, qlK_eq, vE_sumG, smK_eq, vE_lc2, l2K_eq, vEs_nil, vEs_cons, vA_one, vA_cons, vO_one, vO_cons, andK_t, andK_f, orK_t, orK_f, vT_nil, vT_cons, vI_seq, seqK_tup, seqK_rls, seqK_loc, seqL_ok, vI_range1, rg1_int, vI_range2, rg2_int,
  xS_asg, asgK_nm, asgT_nm, asgT_tp2, asgT_tp3, asgK_tp2, asgK_tp3, xS_par, parK_2, parK_3, xS_setS, xS_aug, augV_ok, augK_add, augK_sub, xS_augS, agR_some, agD_eq, agX_eq, agI_eq, agO_eq, idxM_loc, augD_add, augD_sub, xS_expr, xS_ret, xS_retN, xS_ite, brS_t, brS_f, xS_wh, whB_t, whB_f, whK_n, whK_c, whK_b, whK_r, xS_fo, foT_some, foK_n, foK_c, foK_b, foK_r, xS_brk, xS_cont, xS_pass, xSs_nil, xSs_cons, sqK_n, sqK_r, sqK_b, sqK_c,
  b_add, b_sub, b_mul, b_mulL, b_mulR, b_fdiv, b_mod, b_pow, b_addT, b_addL, addL_ok, b_repT, k_lt, k_le, k_gt, k_ge, k_eq, k_ne, k_isN, k_notN, k_in, k_nin, tr_str, q_int, q_bl, q_str, ofB_some, Option.map_some, tr_bl, tr_int, tr_non, tr_tup, tr_loc, trK_ok, td_bl, td_int, td_tup, i_tup, i_rls, i_loc, idxL_ok, okV_some, at0, at1, at2, at3, at_m1, tupK_ok, lstK_ok, negK_int, p_abs, p_int, p_intB, p_lenT, p_lenR, p_lenL, lenL_ok, p_max, p_min, p_tupT, p_tupL, tupL_ok, p_lstT, p_lstL, lstL_ok, isD_ok, m_app, appL_ok, m_pop, popL_ok, m_rev, revL_ok, recv_ok, recvL_ok, set_loc, setL_ok, setI_ok, new_eq, Bool.not_true, Bool.not_false, if_true, eq_self, decide_true, decide_false,
  List.set_cons_zero, List.set_cons_succ, List.getElem?_cons_zero, List.getElem?_cons_succ, List.length_cons, List.length_nil, Option.some.injEq, *])
local macro_rules | `(tactic| walk_at "evs") => `(tactic| simp (config := { maxSteps := 3000000 }) (disch := first | assumption | omega | exact ⟨by omega, by omega⟩ | exact ⟨⟨by omega, by omega⟩, ⟨by omega, by omega⟩⟩ | exact Nat.le_of_ble_eq_true rfl | decide) only [bnd_ok, bnd_bad, binJ_eq, binK_eq, notK_eq, cmpJ_eq, cmpK_eq, idxJ_eq, idxK_eq, calJ_eq, clkJ_eq, clkK_eq, priJ_eq, isiJ_eq, metJ_eq, metI_t, metK_eq, lcJ_eq, lcK_eq, conJ_eq, conK_eq, andJ_eq, orJ_eq, rg2J_eq, nxtK_eq, setI1_eq, setI2_eq, setI3_eq, retK_eq,  vE_var, varK_ok, vE_int, vE_bl, vE_non, vE_str, vE_tup, vE_lst, vE_bin, vE_neg, vE_not, vE_and, vE_or, vE_cmp, vE_ite, brE_t, brE_f, vE_idx, vE_slc, vE_call, vE_callk, vE_prim, vE_isin, vE_meth, vE_lc, vE_gcon, toD_int, toD_strs, vE_chain, chnI_eq, chnK_eq, chnJ_t, chnJ_f, vE_tupG, tgJ_eq, tgK_eq, vE_qual, qlK_eq, vE_sumG, smK_eq, vE_lc2, l2K_eq, vEs_nil, vEs_cons, vA_one, vA_cons, vO_one, vO_cons, andK_t, andK_f, orK_t, orK_f, vT_nil, vT_cons, vI_seq, seqK_tup, seqK_rls, seqK_loc, seqL_ok, vI_range1, rg1_int, vI_range2, rg2_int,
  xS_asg, asgK_nm, asgT_nm, asgT_tp2, asgT_tp3, asgK_tp2, asgK_tp3, xS_par, parK_2, parK_3, xS_setS, xS_aug, augV_ok, augK_add, augK_sub, xS_augS, agR_some, agD_eq, agX_eq, agI_eq, agO_eq, idxM_loc, augD_add, augD_sub, xS_expr, xS_ret, xS_retN, xS_ite, brS_t, brS_f, xS_wh, whB_t, whB_f, whK_n, whK_c, whK_b, whK_r, xS_fo, foT_some, foK_n, foK_c, foK_b, foK_r, xS_brk, xS_cont, xS_pass, xSs_nil, xSs_cons, sqK_n, sqK_r, sqK_b, sqK_c,
  b_add, b_sub, b_mul, b_mulL, b_mulR, b_fdiv, b_mod, b_pow, b_addT, b_addL, addL_ok, b_repT, k_lt, k_le, k_gt, k_ge, k_eq, k_ne, k_isN, k_notN, k_in, k_nin, tr_str, q_int, q_bl, q_str, ofB_some, Option.map_some, tr_bl, tr_int, tr_non, tr_tup, tr_loc, trK_ok, td_bl, td_int, td_tup, i_tup, i_rls, i_loc, idxL_ok, okV_some, at0, at1, at2, at3, at_m1, tupK_ok, lstK_ok, negK_int, p_abs, p_int, p_intB, p_lenT, p_lenR, p_lenL, lenL_ok, p_max, p_min, p_tupT, p_tupL, tupL_ok, p_lstT, p_lstL, lstL_ok, isD_ok, m_app, appL_ok, m_pop, popL_ok, m_rev, revL_ok, recv_ok, recvL_ok, set_loc, setL_ok, setI_ok, new_eq, Bool.not_true, Bool.not_false, if_true, eq_self, decide_true, decide_false,
  List.set_cons_zero, List.set_cons_succ, List.getElem?_cons_zero, List.getElem?_cons_succ, List.length_cons, List.length_nil, Option.some.injEq, List.cons_append, List.nil_append, List.append_assoc, Nat.reduceAdd, st_get, st_get0, st_set, st_set0, List.length_append, Nat.add_zero, Nat.zero_add, *])

/-! ### the bag -/
structure Bag3 (S : Store) (l g c : Nat) (x k : Int) (gs cs : List Int) : Prop where
  hl : S[l]? = some (.lst [.int x, .int k, .loc g, .loc c])
  hg : S[g]? = some (.lst (gs.map .int))
  hc : S[c]? = some (.lst (cs.map .int))
  ne : cs ≠ []
  lg : l ≠ g
  lc : l ≠ c
  gc : g ≠ c
theorem get_lt {S : Store} {l : Nat} {o : SO} (h : S[l]? = some o) : l < S.length := (List.getElem?_eq_some_iff.mp h).1
theorem Bag3.set_l {S : Store} {l g c : Nat} {x k : Int} {gs cs : List Int} (h : Bag3 S l g c x k gs cs) (x' k' : Int) : Bag3 (S.set l (.lst [.int x', .int k', .loc g, .loc c])) l g c x' k' gs cs :=
  ⟨by rw [List.getElem?_set_self (get_lt h.hl)], by rw [List.getElem?_set_ne h.lg]; exact h.hg, by rw [List.getElem?_set_ne h.lc]; exact h.hc, h.ne, h.lg, h.lc, h.gc⟩
theorem Bag3.set_g {S : Store} {l g c : Nat} {x k : Int} {gs cs : List Int} (h : Bag3 S l g c x k gs cs) (gs' : List Int) : Bag3 (S.set g (.lst (gs'.map .int))) l g c x k gs' cs :=
  ⟨by rw [List.getElem?_set_ne (fun z => h.lg z.symm)]; exact h.hl, by rw [List.getElem?_set_self (get_lt h.hg)], by rw [List.getElem?_set_ne h.gc]; exact h.hc, h.ne, h.lg, h.lc, h.gc⟩
structure Off (S S' : Store) (l g : Nat) : Prop where
  len : S'.length = S.length
  same : ∀ j, j ≠ l → j ≠ g → S'[j]? = S[j]?
theorem Off.refl (S : Store) (l g : Nat) : Off S S l g := ⟨rfl, fun _ _ _ => rfl⟩
theorem Off.set_l {S S' : Store} {l g : Nat} (h : Off S S' l g) (o : SO) : Off S (S'.set l o) l g := ⟨by rw [List.length_set]; exact h.len, fun j h1 h2 => by rw [List.getElem?_set_ne (fun z => h1 z.symm)]; exact h.same j h1 h2⟩
theorem Off.set_g {S S' : Store} {l g : Nat} (h : Off S S' l g) (o : SO) : Off S (S'.set g o) l g := ⟨by rw [List.length_set]; exact h.len, fun j h1 h2 => by rw [List.getElem?_set_ne (fun z => h2 z.symm)]; exact h.same j h1 h2⟩
theorem ixN_nat {n i : Nat} (h : i < n) : ixN n (i : Int) = some i := by
  unfold ixN
  rw [if_pos (by omega), if_pos (by omega)]
  simp
theorem ixN4_0 : ixN (0 + 1 + 1 + 1 + 1) (0 : Int) = some 0 := rfl
theorem ixN4_1 : ixN (0 + 1 + 1 + 1 + 1) (1 : Int) = some 1 := rfl
theorem draw3 {P : Prg} {f : Nat} (hf : P f = some ⟨2, 5, B_draw, false⟩) (n : Nat) (S : Store) (l g c : Nat) (x k : Int) (gs cs : List Int) (m : Int)
    (hB : Bag3 S l g c x k gs cs) (hm : 0 < m) (hm2 : m.natAbs < 2 ^ 8000) :
    ∃ r S' x' k' gs', callN P (n + 1) f [.loc l, .int m] S = .ok (.int r) S' ∧ 0 ≤ r ∧ r < m ∧ Bag3 S' l g c x' k' gs' cs ∧ Off S S' l g := by
  rw [callN_eq n _ _ hf rfl (Nat.le_of_ble_eq_true rfl)]
  have cd : ∀ y, CDivW y m := fun y => wide_div (b := 8000) hm hm2 (by decide) (by decide)
  suffices H : ∃ r S' x' k' gs' env, exSs (callN P n) B_draw [some (.loc l), some (.int m), none, none, none] S = .ok (.ret (.int r), env) S' ∧ 0 ≤ r ∧ r < m ∧ Bag3 S' l g c x' k' gs' cs ∧ Off S S' l g by
    obtain ⟨r, S', x', k', gs', env, h, h2⟩ := H
    exact ⟨r, S', x', k', gs', end_any h rfl, h2⟩
  unfold B_draw
  -- the counter
  have hl := hB.hl
  rw [xSs_cons]
  have s1 : exS (callN P n) (.setS (.var 0) (.cint 1) (.bin .add (.idx (.var 0) (.cint 1)) (.cint 1))) [some (.loc l), some (.int m), none, none, none] S
      = .ok (.next, [some (.loc l), some (.int m), none, none, none]) (S.set l (.lst [.int x, .int (k + 1), .loc g, .loc c])) := by
    walk_at "ev*"
    rw [ixN4_1]
    walk_at "ev*"
  rw [s1]
  have hB1 := hB.set_l x (k + 1)
  have hO1 := (Off.refl S l g).set_l (.lst [.int x, .int (k + 1), .loc g, .loc c])
  clear s1
  generalize S.set l (.lst [.int x, .int (k + 1), .loc g, .loc c]) = S1 at hB1 hO1
  rw [bnd_ok, sqK_n, xSs_cons]
  clear hl hB
  generalize k + 1 = k1 at hB1
  have hl := hB1.hl
  have hg := hB1.hg
  -- a great cell
  have s2 : ∃ S2 x2 gs2, exS (callN P n) (.ite (.and (.cons (.cmp .eq (.idx (.var 0) (.cint 0)) (.cint 0)) (.cons (.cmp .gt (.prim .len (.cons (.idx (.var 0) (.cint 2)) .nil)) (.cint 0)) .nil))) (.cons (.setS (.var 0) (.cint 0) (.meth .pop (.idx (.var 0) (.cint 2)) .nil)) .nil) .nil) [some (.loc l), some (.int m), none, none, none] S1
      = .ok (.next, [some (.loc l), some (.int m), none, none, none]) S2 ∧ Bag3 S2 l g c x2 k1 gs2 cs ∧ Off S S2 l g := by
    by_cases hx : x = 0
    · rcases List.eq_nil_or_concat gs with h0 | ⟨gs', y, h0⟩
      · subst h0
        refine ⟨S1, x, [], ?_, hB1, hO1⟩
        subst hx
        have e2 : decide ((0 : Int) < ((List.map D.int []).length : Int)) = false := rfl
        walk_at "ev*"
      · rw [List.concat_eq_append] at h0
        subst h0
        refine ⟨(S1.set g (.lst (gs'.map .int))).set l (.lst [.int y, .int k1, .loc g, .loc c]), y, gs', ?_, (hB1.set_g gs').set_l y k1, (hO1.set_g _).set_l _⟩
        have hB2 := (hB1.set_g gs').hl
        subst hx
        have e2 : decide ((0 : Int) < ((List.map D.int gs' ++ [D.int y]).length : Int)) = true := decide_eq_true (by simp only [List.length_map, List.length_append, List.length_cons]; omega)
        have hg' : S1[g]? = some (.lst (gs'.map .int ++ [.int y])) := by rw [hg]; simp
        clear hg
        walk_at "ev*"
        rw [ixN4_0]
        walk_at "ev*"
    · refine ⟨S1, x, gs, ?_, hB1, hO1⟩
      walk_at "ev*"
  obtain ⟨S2, x2, gs2, e2, hB2, hO2⟩ := s2
  rw [e2, bnd_ok, sqK_n]
  clear e2 hl hg hB1 hO1
  have hl := hB2.hl
  have hc := hB2.hc
  by_cases hx : 0 < x2
  · have cd2 := cd x2
    refine ⟨x2 % m, S2.set l (.lst [.int (x2 / m), .int k1, .loc g, .loc c]), x2 / m, k1, gs2, [some (.loc l), some (.int m), some (.int (x2 % m)), none, none], ?_, Int.emod_nonneg _ (by omega), Int.emod_lt_of_pos _ hm, hB2.set_l _ _, hO2.set_l _⟩
    walk_at "ev*"
    rw [ixN4_0]
    walk_at "ev*"
  · have hn : 0 < cs.length := by have := hB2.ne; cases cs with | nil => exact absurd rfl this | cons a b => simp
    have hcl : (0 : Int) < (((cs.map D.int).length : Nat) : Int) := by rw [List.length_map]; omega
    have hi1 := Int.emod_nonneg k1 (show ((cs.map D.int).length : Int) ≠ 0 by omega)
    have hi2 := Int.emod_lt_of_pos k1 hcl
    have hat : atI (cs.map D.int) (k1 % ((cs.map D.int).length : Int)) = some (.int (cs[(k1 % ((cs.map D.int).length : Int)).toNat]'(by rw [List.length_map] at hi1 hi2 ⊢; omega))) := by
      rw [at_nat hi1 (by omega)]
      simp
    generalize cs[(k1 % ((cs.map D.int).length : Int)).toNat]'(by rw [List.length_map] at hi1 hi2 ⊢; omega) = q at hat
    have m1 := Int.emod_nonneg (q * 48271 + k1 * 69621 + 1) (show (2147483647 : Int) ≠ 0 by decide)
    have m2 := Int.emod_lt_of_pos (q * 48271 + k1 * 69621 + 1) (show (0 : Int) < 2147483647 by decide)
    generalize hmx : (q * 48271 + k1 * 69621 + 1) % 2147483647 = mx at m1 m2
    have n1 := Int.emod_nonneg (mx * mx + mx * 16807 + k1 * 40014) (show (2147483629 : Int) ≠ 0 by decide)
    have n2 := Int.emod_lt_of_pos (mx * mx + mx * 16807 + k1 * 40014) (show (0 : Int) < 2147483629 by decide)
    refine ⟨(mx * mx + mx * 16807 + k1 * 40014) % 2147483629 / 32 % m, S2, x2, k1, gs2, [some (.loc l), some (.int m), none, some (.int q), some (.int mx)], ?_, Int.emod_nonneg _ (by omega), Int.emod_lt_of_pos _ hm, hB2, hO2⟩
    have c1 : CMulW q 48271 ∨ CMul q 48271 := cmul_small (by decide)
    have c2 : CMulW k1 69621 ∨ CMul k1 69621 := cmul_small (by decide)
    have c3 : CMulW mx mx ∨ CMul mx mx := cmul_small (by omega)
    have c4 : CMulW mx 16807 ∨ CMul mx 16807 := cmul_small (by decide)
    have c5 : CMulW k1 40014 ∨ CMul k1 40014 := cmul_small (by decide)
    have c6 : CDivW ((mx * mx + mx * 16807 + k1 * 40014) % 2147483629) 32 := wide_div (b := 8) (by decide) (by decide) (by decide) (by decide)
    walk_at "ev*"

/-! ### the bag's part of the store -/
/-- Sb holds the bag at l and nothing that leads out -/
structure Bag (Sb : Store) (l : Nat) : Prop where
  bag : ∃ g c x k gs cs, Bag3 Sb l g c x k gs cs
  cl : ∀ (j : Nat) (o : SO), Sb[j]? = some o → clO Sb.length o = true
theorem bag_app {Sb G : Store} {l g c : Nat} {x k : Int} {gs cs : List Int} (h : Bag3 Sb l g c x k gs cs) : Bag3 (Sb ++ G) l g c x k gs cs :=
  ⟨by rw [List.getElem?_append_left (get_lt h.hl)]; exact h.hl, by rw [List.getElem?_append_left (get_lt h.hg)]; exact h.hg, by rw [List.getElem?_append_left (get_lt h.hc)]; exact h.hc, h.ne, h.lg, h.lc, h.gc⟩
theorem off_app {Sb G S' : Store} {l g : Nat} (h : Off (Sb ++ G) S' l g) (hl : l < Sb.length) (hg : g < Sb.length) : ∃ Sb', S' = Sb' ++ G ∧ Off Sb Sb' l g := by
  refine ⟨S'.take Sb.length, ?_, ?_, ?_⟩
  · have : S'.drop Sb.length = G := by
      apply List.ext_getElem?
      intro j
      rw [List.getElem?_drop, h.same _ (by omega) (by omega), st_get]
    conv => lhs; rw [← List.take_append_drop Sb.length S', this]
  · rw [List.length_take, h.len, List.length_append]
    omega
  · intro j h1 h2
    by_cases hj : j < Sb.length
    · rw [List.getElem?_take_of_lt hj, h.same j h1 h2, List.getElem?_append_left hj]
    · rw [List.getElem?_eq_none (by rw [List.length_take]; omega), List.getElem?_eq_none (by omega)]
theorem clDs_ints (n : Nat) : ∀ gs : List Int, clDs n (gs.map .int) = true
  | [] => rfl
  | a :: gs => by
    rw [List.map_cons, clDs, clDs_ints n gs, Bool.and_true]
    rfl
mutual
theorem clD_up {n m : Nat} (h : n ≤ m) : ∀ d : D, clD n d = true → clD m d = true
  | .loc l, hd => by
    unfold clD at hd ⊢
    simp only [decide_eq_true_eq] at hd ⊢
    omega
  | .tup ds, hd => by unfold clD at hd ⊢; exact clDs_up h ds hd
  | .rls ds, hd => by unfold clD at hd ⊢; exact clDs_up h ds hd
  | .non, _ => rfl
  | .bl _, _ => rfl
  | .int _, _ => rfl
  | .str _, _ => rfl
theorem clDs_up {n m : Nat} (h : n ≤ m) : ∀ ds : List D, clDs n ds = true → clDs m ds = true
  | [], _ => rfl
  | d :: ds, hd => by
    unfold clDs at hd ⊢
    rw [Bool.and_eq_true] at hd ⊢
    exact ⟨clD_up h d hd.1, clDs_up h ds hd.2⟩
end
theorem cl_up {n m : Nat} (h : n ≤ m) : ∀ o : SO, clO n o = true → clO m o = true
  | .lst ds, ho => clDs_up h ds ho
/-- bag draws: the drawing function at l gives a number below m and keeps the bag -/
def DrawOk (P : Prg) (f : Nat) : Prop := ∀ (n : Nat) (Sb G : Store) (l : Nat) (m : Int), Bag Sb l → 0 < m → m.natAbs < 2 ^ 8000 →
  ∃ r Sb', callN P (n + 1) f [.loc l, .int m] (Sb ++ G) = .ok (.int r) (Sb' ++ G) ∧ 0 ≤ r ∧ r < m ∧ Bag Sb' l ∧ Sb'.length = Sb.length
theorem drawOk {P : Prg} {f : Nat} (hf : P f = some ⟨2, 5, B_draw, false⟩) : DrawOk P f := by
  intro n Sb G l m hB hm hm2
  obtain ⟨g, c, x, k, gs, cs, h⟩ := hB.bag
  obtain ⟨r, S', x', k', gs', e, h0, h1, h2, h3⟩ := draw3 hf n (Sb ++ G) l g c x k gs cs m (bag_app h) hm hm2
  obtain ⟨Sb', rfl, hO⟩ := off_app h3 (get_lt h.hl) (get_lt h.hg)
  refine ⟨r, Sb', e, h0, h1, ⟨⟨g, c, x', k', gs', cs, ?_⟩, ?_⟩, hO.len⟩
  · have hl := get_lt h.hl
    have hg := get_lt h.hg
    have hc := get_lt h.hc
    have hn := hO.len
    have a := h2.hl
    have b := h2.hg
    have d := h2.hc
    rw [List.getElem?_append_left (by omega)] at a b d
    exact ⟨a, b, d, h2.ne, h2.lg, h2.lc, h2.gc⟩
  · intro j o hj
    have hl := get_lt h.hl
    have hg := get_lt h.hg
    have hc := get_lt h.hc
    have hn := hO.len
    rw [hn]
    by_cases j1 : j = l
    · subst j1
      have a := h2.hl
      rw [List.getElem?_append_left (by omega), hj] at a
      cases a
      simp [clO, clDs, clD, hg, hc]
    · by_cases j2 : j = g
      · subst j2
        have a := h2.hg
        rw [List.getElem?_append_left (by omega), hj] at a
        cases a
        exact clDs_ints _ _
      · rw [hO.same j j1 j2] at hj
        exact hB.cl j o hj
/-- the same, at the end of a def that forgets -/
theorem end_trunc {fd : Fd} {Sb Sb' G : Store} {l : Nat} {r : Res (Flow × Env)} {d : D} {env : Env} (H : Store) (e : r = .ok (.ret d, env) (Sb' ++ (G ++ H))) (hp : fd.pure = true) (hB : Bag Sb' l) (hn : Sb'.length = Sb.length) (hd : clD (Sb ++ G).length d = true) : endF fd (Sb ++ G) r = .ok d (Sb' ++ G) := by
  rw [end_ret e hp ?_ hd]
  · congr 1
    rw [← List.append_assoc, List.take_append_of_le_length (by simp only [List.length_append]; omega)]
    rw [List.take_of_length_le (by simp only [List.length_append]; omega)]
  · refine ⟨by simp only [List.length_append]; omega, fun j hj => ?_⟩
    by_cases hj2 : j < Sb.length
    · right
      rw [List.getElem?_append_left (by omega)]
      have : j < Sb'.length := by omega
      refine ⟨Sb'[j], List.getElem?_eq_getElem this, ?_⟩
      have := hB.cl j _ (List.getElem?_eq_getElem this)
      refine cl_up ?_ _ this
      rw [List.length_append]
      omega
    · left
      rw [← List.append_assoc, List.getElem?_append_left (by rw [List.length_append] at hj ⊢; omega), List.getElem?_append_right (by omega), List.getElem?_append_right (by omega), hn]
/-! ### picking -/
def PickOk (P : Prg) (f : Nat) : Prop := ∀ (n : Nat) (Sb G : Store) (l j : Nat) (ds : List D), Bag Sb l → G[j]? = some (.lst ds) → ds ≠ [] → ds.length < 2 ^ 60 →
  ∃ d Sb', callN P (n + 2) f [.loc l, .loc (Sb.length + j)] (Sb ++ G) = .ok d (Sb' ++ G) ∧ d ∈ ds ∧ Bag Sb' l ∧ Sb'.length = Sb.length
def PickTOk (P : Prg) (f : Nat) : Prop := ∀ (n : Nat) (Sb G : Store) (l : Nat) (ds : List D), Bag Sb l → ds ≠ [] → ds.length < 2 ^ 60 →
  ∃ d Sb', callN P (n + 2) f [.loc l, .tup ds] (Sb ++ G) = .ok d (Sb' ++ G) ∧ d ∈ ds ∧ Bag Sb' l ∧ Sb'.length = Sb.length
theorem len_pos {α : Type} {ds : List α} (h : ds ≠ []) : 0 < ds.length := by cases ds with | nil => exact absurd rfl h | cons a b => simp
theorem small_abs {m : Nat} (h : m < 2 ^ 60) : (m : Int).natAbs < 2 ^ 8000 := by
  rw [Int.natAbs_natCast]
  exact Nat.lt_of_lt_of_le h (pow_le_pow (by decide))
theorem pickOk {P : Prg} {f g : Nat} (hf : P f = some ⟨2, 2, B_pick g, false⟩) (hg : DrawOk P g) : PickOk P f := by
  intro n Sb G l j ds hB hj hne hlen
  have hp := len_pos hne
  obtain ⟨r, Sb', e, h0, h1, h2, h3⟩ := hg n Sb G l (ds.length : Int) hB (by omega) (small_abs hlen)
  refine ⟨ds[r.toNat]'(by omega), Sb', ?_, List.getElem_mem _, h2, h3⟩
  rw [callN_eq (n + 1) _ _ hf rfl (Nat.le_of_ble_eq_true rfl)]
  refine end_any (env := [some (.loc l), some (.loc (Sb.length + j))]) ?_ rfl
  show exSs (callN P (n + 1)) (B_pick g) [some (.loc l), some (.loc (Sb.length + j))] (Sb ++ G) = _
  unfold B_pick
  have e1 : (Sb ++ G)[Sb.length + j]? = some (.lst ds) := by rw [st_get]; exact hj
  have e2 : (Sb' ++ G)[Sb.length + j]? = some (.lst ds) := by rw [← h3, st_get]; exact hj
  have e3 := at_nat (xs := ds) h0 (by omega)
  walk_at "ev*"
theorem pickTOk {P : Prg} {f g : Nat} (hf : P f = some ⟨2, 2, B_pick g, false⟩) (hg : DrawOk P g) : PickTOk P f := by
  intro n Sb G l ds hB hne hlen
  have hp := len_pos hne
  obtain ⟨r, Sb', e, h0, h1, h2, h3⟩ := hg n Sb G l (ds.length : Int) hB (by omega) (small_abs hlen)
  refine ⟨ds[r.toNat]'(by omega), Sb', ?_, List.getElem_mem _, h2, h3⟩
  rw [callN_eq (n + 1) _ _ hf rfl (Nat.le_of_ble_eq_true rfl)]
  refine end_any (env := [some (.loc l), some (.tup ds)]) ?_ rfl
  show exSs (callN P (n + 1)) (B_pick g) [some (.loc l), some (.tup ds)] (Sb ++ G) = _
  unfold B_pick
  have e3 := at_nat (xs := ds) h0 (by omega)
  walk_at "ev*"

/-! ### list comprehensions whose own scope reads nothing that changes -/
theorem lc_map (F : Fns) (env : Env) (S : Store) (t : Tg) (own : List Nat) (elt : E) (w : Walk) (hw : w.here S) (g : D → D) : ∀ (items acc : List D), acc.length + items.length < LINE →
    (∀ d ∈ items, ∃ env1, asgT t d S (wipeE env own) = some env1 ∧ evE F elt env1 S = .ok (g d) S) →
    lcS F env t own .nil elt w items acc S = .ok (acc ++ items.map g) S
  | [], acc, _, _ => by rw [lc_nil _ _ _ _ _ _ _ _ _ hw, List.map_nil, List.append_nil]
  | d :: ds, acc, hl, h => by
    obtain ⟨env1, e1, e2⟩ := h d (List.mem_cons_self ..)
    rw [List.length_cons] at hl
    rw [lc_cons _ _ _ _ _ _ _ _ _ _ _ hw, e1]
    unfold lcT
    dsimp only
    rw [vT_nil, bnd_ok]
    unfold lcB
    rw [if_pos rfl, e2, bnd_ok, if_pos (by omega)]
    rw [lc_map F env S t own elt w hw g ds (acc ++ [g d]) (by rw [List.length_append]; simp only [List.length_cons, List.length_nil]; omega) (fun x hx => h x (List.mem_cons_of_mem _ hx))]
    rw [List.map_cons, List.append_assoc]
    rfl
theorem lc_filt (F : Fns) (env : Env) (S : Store) (t : Tg) (own : List Nat) (test elt : E) (w : Walk) (hw : w.here S) (p : D → Bool) (g : D → D) : ∀ (items acc : List D), acc.length + items.length < LINE →
    (∀ d ∈ items, ∃ env1, asgT t d S (wipeE env own) = some env1 ∧ truR (evE F test env1 S) = .ok (p d) S ∧ (p d = true → evE F elt env1 S = .ok (g d) S)) →
    lcS F env t own (.cons test .nil) elt w items acc S = .ok (acc ++ (items.filter p).map g) S
  | [], acc, _, _ => by rw [lc_nil _ _ _ _ _ _ _ _ _ hw, List.filter_nil, List.map_nil, List.append_nil]
  | d :: ds, acc, hl, h => by
    obtain ⟨env1, e1, e2, e3⟩ := h d (List.mem_cons_self ..)
    rw [List.length_cons] at hl
    rw [lc_cons _ _ _ _ _ _ _ _ _ _ _ hw, e1]
    unfold lcT
    dsimp only
    rw [vT_cons, e2, bnd_ok]
    unfold lcB
    cases hp : p d with
    | false =>
      rw [if_neg (by decide)]
      rw [lc_filt F env S t own test elt w hw p g ds acc (by omega) (fun x hx => h x (List.mem_cons_of_mem _ hx))]
      rw [List.filter_cons_of_neg (by rw [hp]; decide)]
    | true =>
      rw [if_pos rfl, e3 hp, bnd_ok, if_pos (by omega)]
      rw [lc_filt F env S t own test elt w hw p g ds (acc ++ [g d]) (by rw [List.length_append]; simp only [List.length_cons, List.length_nil]; omega) (fun x hx => h x (List.mem_cons_of_mem _ hx))]
      rw [List.filter_cons_of_pos hp, List.map_cons, List.append_assoc]
      rfl
end
end SX
namespace SX
open PySem PySem.Spec PyProof.Rows L2
noncomputable section
open Classical
local macro_rules | `(tactic| walk_at "ev") => `(tactic| simp (config := { maxSteps := 3000000 }) (disch := first | assumption | omega | exact ⟨by omega, by omega⟩ | exact ⟨⟨by omega, by omega⟩, ⟨by omega, by omega⟩⟩ | exact Nat.le_of_ble_eq_true rfl | decide) only [bnd_ok, bnd_bad, binJ_eq, binK_eq, notK_eq, cmpJ_eq, cmpK_eq, idxJ_eq, idxK_eq, calJ_eq, clkJ_eq, clkK_eq, priJ_eq, isiJ_eq, metJ_eq, metI_t, metK_eq, lcJ_eq, lcK_eq, conJ_eq, conK_eq, andJ_eq, orJ_eq, rg2J_eq, nxtK_eq, setI1_eq, setI2_eq, setI3_eq, retK_eq,  vE_var, varK_ok, vE_int, vE_bl, vE_non, vE_str, vE_tup, vE_lst, vE_bin, vE_neg, vE_not, vE_and, vE_or, vE_cmp, vE_ite, brE_t, brE_f, vE_idx, vE_slc, vE_call, vE_callk, vE_prim, vE_isin, vE_meth, vE_lc, vE_gcon, toD_int, toD_strs, vE_chain, chnI_eq, chnK_eq, chnJ_t, chnJ_f, vE_tupG, tgJ_eq, tgK_eq, vE_qual, qlK_eq, vE_sumG, smK_eq, vE_lc2, l2K_eq, vEs_nil, vEs_cons, vA_one, vA_cons, vO_one, vO_cons, andK_t, andK_f, orK_t, orK_f, vT_nil, vT_cons, vI_seq, seqK_tup, seqK_rls, seqK_loc, seqL_ok, vI_range1, rg1_int, vI_range2, rg2_int,
  xS_asg, asgK_nm, asgT_nm, asgT_tp2, asgT_tp3, asgK_tp2, asgK_tp3, xS_par, parK_2, parK_3, xS_setS, xS_aug, augV_ok, augK_add, augK_sub, xS_augS, agR_some, agD_eq, agX_eq, agI_eq, agO_eq, idxM_loc, augD_add, augD_sub, xS_expr, xS_ret, xS_retN, xS_ite, brS_t, brS_f, xS_wh, whB_t, whB_f, whK_n, whK_c, whK_b, whK_r, xS_fo, foT_some, foK_n, foK_c, foK_b, foK_r, xS_brk, xS_cont, xS_pass, xSs_nil, xSs_cons, sqK_n, sqK_r, sqK_b, sqK_c,
  b_add, b_sub, b_mul, b_mulL, b_mulR, b_fdiv, b_mod, b_pow, b_addT, b_addL, addL_ok, b_repT, k_lt, k_le, k_gt, k_ge, k_eq, k_ne, k_isN, k_notN, k_in, k_nin, tr_str, q_int, q_bl, q_str, ofB_some, Option.map_some, tr_bl, tr_int, tr_non, tr_tup, tr_loc, trK_ok, td_bl, td_int, td_tup, i_tup, i_rls, i_loc, idxL_ok, okV_some, at0, at1, at2, at3, at_m1, tupK_ok, lstK_ok, negK_int, p_abs, p_int, p_intB, p_lenT, p_lenR, p_lenL, lenL_ok, p_max, p_min, p_tupT, p_tupL, tupL_ok, p_lstT, p_lstL, lstL_ok, isD_ok, m_app, appL_ok, m_pop, popL_ok, m_rev, revL_ok, recv_ok, recvL_ok, set_loc, setL_ok, setI_ok, new_eq, Bool.not_true, Bool.not_false, if_true, eq_self, decide_true, decide_false,
  List.set_cons_zero, List.set_cons_succ, List.getElem?_cons_zero, List.getElem?_cons_succ, List.length_cons, List.length_nil, Option.some.injEq])
local macro_rules | `(tactic| walk_at "ev*") => `(tactic| simp (config := { maxSteps := 3000000 }) (disch := first | assumption | omega | exact ⟨by omega, by omega⟩ | exact ⟨⟨by omega, by omega⟩, ⟨by omega, by omega⟩⟩ | exact Nat.le_of_ble_eq_true rfl | decide) only [bnd_ok, bnd_bad, binJ_eq, binK_eq, notK_eq, cmpJ_eq, cmpK_eq, idxJ_eq, idxK_eq, calJ_eq, clkJ_eq, clkK_eq, priJ_eq, isiJ_eq, metJ_eq, metI_t, metK_eq, lcJ_eq, lcK_eq, conJ_eq, conK_eq, andJ_eq, orJ_eq, rg2J_eq, nxtK_eq, setI1_eq, setI2_eq, setI3_eq, retK_eq,  vE_var, varK_ok, vE_int, vE_bl, vE_non, vE_str, vE_tup, vE_lst, vE_bin, vE_neg, vE_not, vE_and, vE_or, vE_cmp, vE_ite, brE_t, brE_f, vE_idx, vE_slc, vE_call, vE_callk, vE_prim, vE_isin, vE_meth, vE_lc, vE_gcon, toD_int, toD_strs, vE_chain, chnI_eq, chnK_eq, chnJ_t, chnJ_f, vE_tupG, tgJ_eq, tgK_eq, vE_qual, qlK_eq, vE_sumG, smK_eq, vE_lc2, l2K_eq, vEs_nil, vEs_cons, vA_one, vA_cons, vO_one, vO_cons, andK_t, andK_f, orK_t, orK_f, vT_nil, vT_cons, vI_seq, seqK_tup, seqK_rls, seqK_loc, seqL_ok, vI_range1, rg1_int, vI_range2, rg2_int,
  xS_asg, asgK_nm, asgT_nm, asgT_tp2, asgT_tp3, asgK_tp2, asgK_tp3, xS_par, parK_2, parK_3, xS_setS, xS_aug, augV_ok, augK_add, augK_sub, xS_augS, agR_some, agD_eq, agX_eq, agI_eq, agO_eq, idxM_loc, augD_add, augD_sub, xS_expr, xS_ret, xS_retN, xS_ite, brS_t, brS_f, xS_wh, whB_t, whB_f, whK_n, whK_c, whK_b, whK_r, xS_fo, foT_some, foK_n, foK_c, foK_b, foK_r, xS_brk, xS_cont, xS_pass, xSs_nil, xSs_cons, sqK_n, sqK_r, sqK_b, sqK_c,
  b_add, b_sub, b_mul, b_mulL, b_mulR, b_fdiv, b_mod, b_pow, b_addT, b_addL, addL_ok, b_repT, k_lt, k_le, k_gt, k_ge, k_eq, k_ne, k_isN, k_notN, k_in, k_nin, tr_str, q_int, q_bl, q_str, ofB_some, Option.map_some, tr_bl, tr_int, tr_non, tr_tup, tr_loc, trK_ok, td_bl, td_int, td_tup, i_tup, i_rls, i_loc, idxL_ok, okV_some, at0, at1, at2, at3, at_m1, tupK_ok, lstK_ok, negK_int, p_abs, p_int, p_intB, p_lenT, p_lenR, p_lenL, lenL_ok, p_max, p_min, p_tupT, p_tupL, tupL_ok, p_lstT, p_lstL, lstL_ok, isD_ok, m_app, appL_ok, m_pop, popL_ok, m_rev, revL_ok, recv_ok, recvL_ok, set_loc, setL_ok, setI_ok, new_eq, Bool.not_true, Bool.not_false, if_true, eq_self, decide_true, decide_false,
  List.set_cons_zero, List.set_cons_succ, List.getElem?_cons_zero, List.getElem?_cons_succ, List.length_cons, List.length_nil, Option.some.injEq, *])
local macro_rules | `(tactic| walk_at "evs") => `(tactic| simp (config := { maxSteps := 3000000 }) (disch := first | assumption | omega | exact ⟨by omega, by omega⟩ | exact ⟨⟨by omega, by omega⟩, ⟨by omega, by omega⟩⟩ | exact Nat.le_of_ble_eq_true rfl | decide) only [bnd_ok, bnd_bad, binJ_eq, binK_eq, notK_eq, cmpJ_eq, cmpK_eq, idxJ_eq, idxK_eq, calJ_eq, clkJ_eq, clkK_eq, priJ_eq, isiJ_eq, metJ_eq, metI_t, metK_eq, lcJ_eq, lcK_eq, conJ_eq, conK_eq, andJ_eq, orJ_eq, rg2J_eq, nxtK_eq, setI1_eq, setI2_eq, setI3_eq, retK_eq,  vE_var, varK_ok, vE_int, vE_bl, vE_non, vE_str, vE_tup, vE_lst, vE_bin, vE_neg, vE_not, vE_and, vE_or, vE_cmp, vE_ite, brE_t, brE_f, vE_idx, vE_slc, vE_call, vE_callk, vE_prim, vE_isin, vE_meth, vE_lc, vE_gcon, toD_int, toD_strs, vE_chain, chnI_eq, chnK_eq, chnJ_t, chnJ_f, vE_tupG, tgJ_eq, tgK_eq, vE_qual, qlK_eq, vE_sumG, smK_eq, vE_lc2, l2K_eq, vEs_nil, vEs_cons, vA_one, vA_cons, vO_one, vO_cons, andK_t, andK_f, orK_t, orK_f, vT_nil, vT_cons, vI_seq, seqK_tup, seqK_rls, seqK_loc, seqL_ok, vI_range1, rg1_int, vI_range2, rg2_int,
  xS_asg, asgK_nm, asgT_nm, asgT_tp2, asgT_tp3, asgK_tp2, asgK_tp3, xS_par, parK_2, parK_3, xS_setS, xS_aug, augV_ok, augK_add, augK_sub, xS_augS, agR_some, agD_eq, agX_eq, agI_eq, agO_eq, idxM_loc, augD_add, augD_sub, xS_expr, xS_ret, xS_retN, xS_ite, brS_t, brS_f, xS_wh, whB_t, whB_f, whK_n, whK_c, whK_b, whK_r, xS_fo, foT_some, foK_n, foK_c, foK_b, foK_r, xS_brk, xS_cont, xS_pass, xSs_nil, xSs_cons, sqK_n, sqK_r, sqK_b, sqK_c,
  b_add, b_sub, b_mul, b_mulL, b_mulR, b_fdiv, b_mod, b_pow, b_addT, b_addL, addL_ok, b_repT, k_lt, k_le, k_gt, k_ge, k_eq, k_ne, k_isN, k_notN, k_in, k_nin, tr_str, q_int, q_bl, q_str, ofB_some, Option.map_some, tr_bl, tr_int, tr_non, tr_tup, tr_loc, trK_ok, td_bl, td_int, td_tup, i_tup, i_rls, i_loc, idxL_ok, okV_some, at0, at1, at2, at3, at_m1, tupK_ok, lstK_ok, negK_int, p_abs, p_int, p_intB, p_lenT, p_lenR, p_lenL, lenL_ok, p_max, p_min, p_tupT, p_tupL, tupL_ok, p_lstT, p_lstL, lstL_ok, isD_ok, m_app, appL_ok, m_pop, popL_ok, m_rev, revL_ok, recv_ok, recvL_ok, set_loc, setL_ok, setI_ok, new_eq, Bool.not_true, Bool.not_false, if_true, eq_self, decide_true, decide_false,
  List.set_cons_zero, List.set_cons_succ, List.getElem?_cons_zero, List.getElem?_cons_succ, List.length_cons, List.length_nil, Option.some.injEq, List.cons_append, List.nil_append, List.append_assoc, Nat.reduceAdd, st_get, st_get0, st_set, st_set0, List.length_append, Nat.add_zero, Nat.zero_add, *])

/-! ### the bag is laid -/
theorem rev_ints (gs : List Int) : (gs.map D.int).reverse = gs.reverse.map .int := by rw [List.map_reverse]
theorem filter_ints (p : Int → Bool) (q : D → Bool) (h : ∀ i, q (.int i) = p i) : ∀ xs : List Int, (xs.map D.int).filter q = (xs.filter p).map .int
  | [] => rfl
  | x :: xs => by
    rw [List.map_cons, List.filter_cons, List.filter_cons, h, filter_ints p q h xs]
    cases p x <;> rfl
def bagS0 (ns T : List Int) (a : List SO) : Store := [.lst (ns.map fun (i : Int) => D.int (i.natAbs : Int)), .lst [.int 7], .lst (T.map D.int)] ++ a
def dInt : D → Int
  | .int i => i
  | _ => 0
theorem map_dInt (h : Int → Int) (xs : List Int) : (xs.map D.int).map (fun d => D.int (h (dInt d))) = (xs.map h).map D.int := by
  rw [List.map_map, List.map_map]
  rfl
theorem e_bag {P : Prg} {f : Nat} (hf : P f = some ⟨1, 4, B_bag, false⟩) (n : Nat) (ns : List Int) (hn : ns.length ≤ 1000) :
    ∃ Sb l, callN P (n + 1) f [.rls (ns.map .int)] [] = .ok (.loc l) Sb ∧ Bag Sb l := by
  rw [callN_eq n _ _ hf rfl (Nat.le_of_ble_eq_true rfl)]
  suffices HH : ∃ Sb l env, exSs (callN P n) B_bag [some (.rls (ns.map .int)), none, none, none] [] = .ok (.ret (.loc l), env) Sb ∧ Bag Sb l by
    obtain ⟨Sb, l, env, h, h2⟩ := HH
    exact ⟨Sb, l, end_any h rfl, h2⟩
  unfold B_bag
  let T : List Int := ns.map (fun i => (i.natAbs : Int)) ++ [7]
  have hT : ns.map (fun i => (i.natAbs : Int)) ++ [7] = T := rfl
  have hTl : T.length = ns.length + 1 := by rw [← hT, List.length_append, List.length_map]; rfl
  have L0 : LINE = 16777216 := rfl
  have l1 := lc_map (callN P n) [some (.rls (ns.map .int)), none, none, none] [] (.nm 3) [3] (.prim .abs (.cons (.prim .int (.cons (.var 3) .nil)) .nil)) ⟨ns.map .int, none⟩ True.intro (fun d => .int ((dInt d).natAbs : Int)) (ns.map .int) [] (by rw [List.length_map]; simp only [List.length_nil]; omega) (fun d hd => by
    obtain ⟨i, hi, rfl⟩ := List.mem_map.mp hd
    refine ⟨[some (.rls (ns.map .int)), none, none, some (.int i)], rfl, ?_⟩
    walk_at "ev"
    rfl)
  rw [map_dInt (fun i => (i.natAbs : Int)), List.nil_append] at l1
  have e0 : 0 < T.length := by omega
  have e0' : atI (T.map D.int) 0 = some (.int T[0]) := by
    rw [at_nat (by decide) (by rw [List.length_map]; exact e0)]
    simp
  have hlen : (List.map D.int (List.map (fun i => ((i.natAbs : Int))) ns)).length + ([D.int 7] : List D).length ≤ LINE := by rw [List.length_map, List.length_map]; simp only [List.length_cons, List.length_nil]; omega
  have hS : (List.map D.int (List.map (fun i => ((i.natAbs : Int))) ns)) ++ [D.int 7] = T.map D.int := by rw [← hT, List.map_append]; rfl
  rw [xSs_cons]
  have s1 : exS (callN P n) (.asg (.nm 1) (.bin .add (.lc (.prim .abs (.cons (.prim .int (.cons (.var 3) .nil)) .nil)) (.nm 3) (.seq (.var 0)) .nil [3]) (.lst (.cons (.cint 7) .nil)))) [some (.rls (ns.map .int)), none, none, none] []
      = .ok (.next, [some (.rls (ns.map .int)), some (.loc 2), none, none]) [.lst ((ns.map (fun i => (i.natAbs : Int))).map D.int), .lst [.int 7], .lst (T.map D.int)] := by
    walk_at "ev"
    rw [l1]
    walk_at "ev"
    show (addL _ (some (.lst _)) (some (.lst _))).bnd _ = _
    rw [addL_ok _ hlen, hS]
    rfl
  rw [s1, bnd_ok, sqK_n]
  generalize (ns.map (fun i => (i.natAbs : Int))) = A0
  clear s1 l1 hlen hS hT
  -- the rests
  have l3 : ∀ (S : Store) (env : Env) (w : Walk), w.here S → (∀ i : Int, asgT (.nm 3) (.int i) S (wipeE env [3]) = some (env.set 3 (some (.int i)))) → env.length = 4 → lcS (callN P n) env (.nm 3) [3] .nil (.bin .mod (.prim .int (.cons (.var 3) .nil)) (.cint 2147483647)) w (T.map D.int) [] S = .ok ((T.map (· % 2147483647)).map D.int) S := by
    intro S env w hw hq hle
    have := lc_map (callN P n) env S (.nm 3) [3] (.bin .mod (.prim .int (.cons (.var 3) .nil)) (.cint 2147483647)) w hw (fun d => .int (dInt d % 2147483647)) (T.map .int) [] (by rw [List.length_map]; simp only [List.length_nil]; omega) (fun d hd => by
      obtain ⟨i, hi, rfl⟩ := List.mem_map.mp hd
      refine ⟨_, hq i, ?_⟩
      have e3 : (env.set 3 (some (D.int i)))[3]? = some (some (.int i)) := List.getElem?_set_self (by omega)
      walk_at "ev*"
      rfl)
    rw [map_dInt (fun i => i % 2147483647), List.nil_append] at this
    exact this
  have l2 : ∀ (S : Store) (env : Env) (w : Walk), w.here S → (∀ i : Int, asgT (.nm 3) (.int i) S (wipeE env [3]) = some (env.set 3 (some (.int i)))) → env.length = 4 → lcS (callN P n) env (.nm 3) [3] (.cons (.cmp .ge (.var 3) (.bin .pow (.cint 10) (.cint 18))) .nil) (.bin .fdiv (.var 3) (.cint 2)) w (T.map D.int) [] S = .ok (((T.filter fun i => decide (10 ^ 18 ≤ i)).map (· / 2)).map D.int) S := by
    intro S env w hw hq hle
    have := lc_filt (callN P n) env S (.nm 3) [3] (.cmp .ge (.var 3) (.bin .pow (.cint 10) (.cint 18))) (.bin .fdiv (.var 3) (.cint 2)) w hw (fun d => decide (10 ^ 18 ≤ dInt d)) (fun d => .int (dInt d / 2)) (T.map .int) [] (by rw [List.length_map]; simp only [List.length_nil]; omega) (fun d hd => by
      obtain ⟨i, hi, rfl⟩ := List.mem_map.mp hd
      have e3 : (env.set 3 (some (D.int i)))[3]? = some (some (.int i)) := List.getElem?_set_self (by omega)
      have c1 : CPow 10 18 := ⟨by decide, by decide, by decide⟩
      have c2 : CDivW i 2 := wide_div (b := 8) (by decide) (by decide) (by decide) (by decide)
      refine ⟨_, hq i, ?_, fun _ => ?_⟩
      · walk_at "ev*"
        rfl
      · walk_at "ev*"
        rfl)
    rw [filter_ints (fun i => decide (10 ^ 18 ≤ i)) _ (fun i => rfl), map_dInt (fun i => i / 2), List.nil_append] at this
    exact this
  have hCne : T.map (· % 2147483647) ≠ [] := fun z => by
    have := congrArg List.length z
    rw [List.length_map] at this
    simp only [List.length_nil] at this
    omega
  generalize (T.map (· % 2147483647)) = C at l3 hCne
  generalize ((T.filter fun i => decide (10 ^ 18 ≤ i)).map (· / 2)) = G at l2
  by_cases hev : T[0] % 2 = 0
  · refine ⟨[.lst (A0.map .int), .lst [.int 7], .lst (T.map D.int), .lst [], .lst (G.reverse.map .int), .lst (C.map .int), .lst [.int 0, .int 0, .loc 4, .loc 5]], 6, [some (.rls (ns.map .int)), some (.loc 2), some (.loc 4), none], ?_, ⟨4, 5, 0, 0, G.reverse, C, rfl, rfl, rfl, hCne, by decide, by decide, by decide⟩, ?_⟩
    · have q2 := l2 [.lst (A0.map .int), .lst [.int 7], .lst (T.map D.int), .lst []] [some (.rls (ns.map .int)), some (.loc 2), some (.loc 3), none] ⟨T.map .int, some 2⟩ rfl (fun i => rfl) rfl
      have q3 := l3 [.lst (A0.map .int), .lst [.int 7], .lst (T.map D.int), .lst [], .lst (G.reverse.map .int)] [some (.rls (ns.map .int)), some (.loc 2), some (.loc 4), none] ⟨T.map .int, some 2⟩ rfl (fun i => rfl) rfl
      have q4 := rev_ints G
      walk_at "evs"
    · intro j o hj
      rcases j with _ | _ | _ | _ | _ | _ | _ | j
      all_goals first
        | (simp only [List.getElem?_cons_zero, List.getElem?_cons_succ, Option.some.injEq] at hj; subst hj; first | exact clDs_ints _ _ | rfl)
        | (simp only [List.getElem?_cons_zero, List.getElem?_cons_succ, List.getElem?_nil] at hj; cases hj)
  · refine ⟨[.lst (A0.map .int), .lst [.int 7], .lst (T.map D.int), .lst [], .lst (C.map .int), .lst [.int 0, .int 0, .loc 3, .loc 4]], 5, [some (.rls (ns.map .int)), some (.loc 2), some (.loc 3), none], ?_, ⟨3, 4, 0, 0, [], C, rfl, rfl, rfl, hCne, by decide, by decide, by decide⟩, ?_⟩
    · have q3 := l3 [.lst (A0.map .int), .lst [.int 7], .lst (T.map D.int), .lst []] [some (.rls (ns.map .int)), some (.loc 2), some (.loc 3), none] ⟨T.map .int, some 2⟩ rfl (fun i => rfl) rfl
      walk_at "evs"
    · intro j o hj
      rcases j with _ | _ | _ | _ | _ | _ | j
      all_goals first
        | (simp only [List.getElem?_cons_zero, List.getElem?_cons_succ, Option.some.injEq] at hj; subst hj; first | exact clDs_ints _ _ | rfl)
        | (simp only [List.getElem?_cons_zero, List.getElem?_cons_succ, List.getElem?_nil] at hj; cases hj)

/-! ### likeness -/
mutual
def plain : D → Bool
  | .loc _ => false
  | .rls _ => false
  | .tup ds => plains ds && decide (ds.length < 4611686018427387904)
  | _ => true
def plains : List D → Bool
  | [] => true
  | d :: ds => plain d && plains ds
end
mutual
def depD : D → Nat
  | .tup ds => depDs ds + 1
  | _ => 0
def depDs : List D → Nat
  | [] => 0
  | d :: ds => max (depD d) (depDs ds)
end
theorem dep_mem : ∀ (ds : List D) (d : D), d ∈ ds → depD d ≤ depDs ds
  | e :: ds, d, h => by
    unfold depDs
    rcases List.mem_cons.mp h with rfl | h
    · omega
    · have := dep_mem ds d h
      omega
theorem plain_mem : ∀ (ds : List D), plains ds = true → ∀ d, d ∈ ds → plain d = true
  | e :: ds, hp, d, h => by
    unfold plains at hp
    rw [Bool.and_eq_true] at hp
    rcases List.mem_cons.mp h with rfl | h
    · exact hp.1
    · exact plain_mem ds hp.2 d h
theorem rng_cons {lo hi : Int} (h : lo < hi) : rngK lo hi = .int lo :: rngK (lo + 1) hi := by
  unfold rngK
  obtain ⟨m, hm⟩ : ∃ m, (hi - lo).toNat = m + 1 := ⟨(hi - lo).toNat - 1, by omega⟩
  rw [hm, show (hi - (lo + 1)).toNat = m by omega, List.range_succ_eq_map, List.map_cons, List.map_map]
  congr 1
  · simp
  · apply List.map_congr_left
    intro k hk
    show D.int (lo + ((k + 1 : Nat) : Int)) = D.int (lo + 1 + (k : Int))
    congr 1
    omega
theorem rng_nil {lo hi : Int} (h : hi ≤ lo) : rngK lo hi = [] := by
  unfold rngK
  rw [show (hi - lo).toNat = 0 by omega]
  rfl
theorem len62 {n : Nat} (h : n < 4611686018427387904) : R62 (n : Int) := ⟨by omega, by omega⟩
def SameOk (P : Prg) (f : Nat) : Prop := ∀ (k n : Nat) (d : D) (S : Store), plain d = true → depD d ≤ k → callN P (n + k + 1) f [d, d] S = .ok (.bl true) S
theorem sameOk {P : Prg} {f : Nat} (hf : P f = some ⟨2, 3, B_same f, true⟩) : SameOk P f := by
  intro k
  induction k with
  | zero =>
    intro n d S hp hd
    rw [callN_eq _ _ _ hf rfl (Nat.le_of_ble_eq_true rfl)]
    refine end_pure (env := [some d, some d, none]) ?_ rfl rfl
    show exSs (callN P (n + 0)) (B_same f) [some d, some d, none] S = _
    unfold B_same
    cases d with
    | loc l => cases hp
    | rls l => cases hp
    | tup ds => unfold depD at hd; omega
    | non =>
      have e : isNonD .non = true := rfl
      walk_at "ev*"
    | bl b =>
      have e : isNonD (.bl b) = false := rfl
      have e1 : isK .bool (kdD (.bl b)) = true := rfl
      walk_at "ev*"
    | int i =>
      have e : isNonD (.int i) = false := rfl
      have e1 : isK .bool (kdD (.int i)) = false := rfl
      have e2 : isK .int (kdD (.int i)) = true := rfl
      walk_at "ev*"
    | str i =>
      have e : isNonD (.str i) = false := rfl
      have e1 : isK .bool (kdD (.str i)) = false := rfl
      have e2 : isK .int (kdD (.str i)) = false := rfl
      have e3 : isK .str (kdD (.str i)) = true := rfl
      walk_at "ev*"
  | succ k ih =>
    intro n d S hp hd
    by_cases ht : ∃ ds, d = .tup ds
    · obtain ⟨ds, rfl⟩ := ht
      rw [callN_eq _ _ _ hf rfl (Nat.le_of_ble_eq_true rfl)]
      unfold depD at hd
      unfold plain at hp
      rw [Bool.and_eq_true, decide_eq_true_eq] at hp
      obtain ⟨hp, hpl⟩ := hp
      have loop : ∀ (w : Walk) (hw : w.here S) (m : Nat) (lo : Nat) (o : Option D), lo + m = ds.length → ∃ o', foS (callN P (n + k + 1)) (.nm 2) (.cons (.ite (.not (.call f (.cons (.idx (.var 0) (.var 2)) (.cons (.idx (.var 1) (.var 2)) .nil)))) (.cons (.ret (.cbl false)) .nil) .nil) .nil) w (rngK (lo : Int) (ds.length : Int)) [some (.tup ds), some (.tup ds), o] S
          = .ok (.next, [some (.tup ds), some (.tup ds), o']) S := by
        intro w hw m
        induction m with
        | zero =>
          intro lo o hlo
          rw [rng_nil (by omega)]
          exact ⟨o, fo_nil _ _ _ _ _ _ hw⟩
        | succ m ihm =>
          intro lo o hlo
          rw [rng_cons (by omega), fo_cons _ _ _ _ _ _ _ _ hw]
          obtain ⟨o', h'⟩ := ihm (lo + 1) (some (.int lo)) (by omega)
          refine ⟨o', ?_⟩
          rw [Int.natCast_add] at h'
          have e1 := at_nat (xs := ds) (i := (lo : Int)) (by omega) (by omega)
          have hm : ds[(lo : Int).toNat]'(by omega) ∈ ds := List.getElem_mem _
          generalize ds[(lo : Int).toNat]'(by omega) = d at hm e1
          have e2 := ih n d S (plain_mem _ hp _ hm) (by have := dep_mem _ _ hm; omega)
          simp only [asgT]
          walk_at "ev*"
          exact h'
      obtain ⟨o', hl⟩ := loop ⟨rngK 0 (ds.length : Int), none⟩ (here_none _ _) ds.length 0 none (by omega)
      refine end_pure (env := [some (.tup ds), some (.tup ds), o']) ?_ rfl rfl
      show exSs (callN P (n + k + 1)) (B_same f) [some (.tup ds), some (.tup ds), none] S = _
      unfold B_same
      have e : isNonD (.tup ds) = false := rfl
      have e1 : isK .bool (kdD (.tup ds)) = false := rfl
      have e2 : isK .int (kdD (.tup ds)) = false := rfl
      have e3 : isK .str (kdD (.tup ds)) = false := rfl
      have e4 : isK .tuple (kdD (.tup ds)) = true := rfl
      have hr : R62 (ds.length : Int) := len62 hpl
      clear ih loop hf
      rw [show ((0 : Nat) : Int) = 0 from rfl] at hl
      walk_at "ev*"
    · have : depD d ≤ k := by
        cases d with
        | tup ds => exact absurd ⟨ds, rfl⟩ ht
        | _ => exact Nat.zero_le _
      have := ih (n + 1) d S hp this
      rw [show n + 1 + k + 1 = n + (k + 1) + 1 by omega] at this
      exact this
end
end SX
namespace SX
open PySem PySem.Spec PyProof.Rows L2
noncomputable section
open Classical
local macro_rules | `(tactic| walk_at "ev") => `(tactic| simp (config := { maxSteps := 3000000 }) (disch := first | assumption | omega | exact ⟨by omega, by omega⟩ | exact ⟨⟨by omega, by omega⟩, ⟨by omega, by omega⟩⟩ | exact Nat.le_of_ble_eq_true rfl | decide) only [bnd_ok, bnd_bad, binJ_eq, binK_eq, notK_eq, cmpJ_eq, cmpK_eq, idxJ_eq, idxK_eq, calJ_eq, clkJ_eq, clkK_eq, priJ_eq, isiJ_eq, metJ_eq, metI_t, metK_eq, lcJ_eq, lcK_eq, conJ_eq, conK_eq, andJ_eq, orJ_eq, rg2J_eq, nxtK_eq, setI1_eq, setI2_eq, setI3_eq, retK_eq,  vE_var, varK_ok, vE_int, vE_bl, vE_non, vE_str, vE_tup, vE_lst, vE_bin, vE_neg, vE_not, vE_and, vE_or, vE_cmp, vE_ite, brE_t, brE_f, vE_idx, vE_slc, vE_call, vE_callk, vE_prim, vE_isin, vE_meth, vE_lc, vE_gcon, toD_int, toD_strs, vE_chain, chnI_eq, chnK_eq, chnJ_t, chnJ_f, vE_tupG, tgJ_eq, tgK_eq, vE_qual, qlK_eq, vE_sumG, smK_eq, vE_lc2, l2K_eq, vEs_nil, vEs_cons, vA_one, vA_cons, vO_one, vO_cons, andK_t, andK_f, orK_t, orK_f, vT_nil, vT_cons, vI_seq, seqK_tup, seqK_rls, seqK_loc, seqL_ok, vI_range1, rg1_int, vI_range2, rg2_int,
  xS_asg, asgK_nm, asgT_nm, asgT_tp2, asgT_tp3, asgK_tp2, asgK_tp3, xS_par, parK_2, parK_3, xS_setS, xS_aug, augV_ok, augK_add, augK_sub, xS_augS, agR_some, agD_eq, agX_eq, agI_eq, agO_eq, idxM_loc, augD_add, augD_sub, xS_expr, xS_ret, xS_retN, xS_ite, brS_t, brS_f, xS_wh, whB_t, whB_f, whK_n, whK_c, whK_b, whK_r, xS_fo, foT_some, foK_n, foK_c, foK_b, foK_r, xS_brk, xS_cont, xS_pass, xSs_nil, xSs_cons, sqK_n, sqK_r, sqK_b, sqK_c,
  b_add, b_sub, b_mul, b_mulL, b_mulR, b_fdiv, b_mod, b_pow, b_addT, b_addL, addL_ok, b_repT, k_lt, k_le, k_gt, k_ge, k_eq, k_ne, k_isN, k_notN, k_in, k_nin, tr_str, q_int, q_bl, q_str, ofB_some, Option.map_some, tr_bl, tr_int, tr_non, tr_tup, tr_loc, trK_ok, td_bl, td_int, td_tup, i_tup, i_rls, i_loc, idxL_ok, okV_some, at0, at1, at2, at3, at_m1, tupK_ok, lstK_ok, negK_int, p_abs, p_int, p_intB, p_lenT, p_lenR, p_lenL, lenL_ok, p_max, p_min, p_tupT, p_tupL, tupL_ok, p_lstT, p_lstL, lstL_ok, isD_ok, m_app, appL_ok, m_pop, popL_ok, m_rev, revL_ok, recv_ok, recvL_ok, set_loc, setL_ok, setI_ok, new_eq, Bool.not_true, Bool.not_false, if_true, eq_self, decide_true, decide_false,
  List.set_cons_zero, List.set_cons_succ, List.getElem?_cons_zero, List.getElem?_cons_succ, List.length_cons, List.length_nil, Option.some.injEq])
local macro_rules | `(tactic| walk_at "ev*") => `(tactic| simp (config := { maxSteps := 3000000 }) (disch := first | assumption | omega | exact ⟨by omega, by omega⟩ | exact ⟨⟨by omega, by omega⟩, ⟨by omega, by omega⟩⟩ | exact Nat.le_of_ble_eq_true rfl | decide) only [bnd_ok, bnd_bad, binJ_eq, binK_eq, notK_eq, cmpJ_eq, cmpK_eq, idxJ_eq, idxK_eq, calJ_eq, clkJ_eq, clkK_eq, priJ_eq, isiJ_eq, metJ_eq, metI_t, metK_eq, lcJ_eq, lcK_eq, conJ_eq, conK_eq, andJ_eq, orJ_eq, rg2J_eq, nxtK_eq, setI1_eq, setI2_eq, setI3_eq, retK_eq,  vE_var, varK_ok, vE_int, vE_bl, vE_non, vE_str, vE_tup, vE_lst, vE_bin, vE_neg, vE_not, vE_and, vE_or, vE_cmp, vE_ite, brE_t, brE_f, vE_idx, vE_slc, vE_call, vE_callk, vE_prim, vE_isin, vE_meth, vE_lc, vE_gcon, toD_int, toD_strs, vE_chain, chnI_eq, chnK_eq, chnJ_t, chnJ_f, vE_tupG, tgJ_eq, tgK_eq, vE_qual, qlK_eq, vE_sumG, smK_eq, vE_lc2, l2K_eq, vEs_nil, vEs_cons, vA_one, vA_cons, vO_one, vO_cons, andK_t, andK_f, orK_t, orK_f, vT_nil, vT_cons, vI_seq, seqK_tup, seqK_rls, seqK_loc, seqL_ok, vI_range1, rg1_int, vI_range2, rg2_int,
  xS_asg, asgK_nm, asgT_nm, asgT_tp2, asgT_tp3, asgK_tp2, asgK_tp3, xS_par, parK_2, parK_3, xS_setS, xS_aug, augV_ok, augK_add, augK_sub, xS_augS, agR_some, agD_eq, agX_eq, agI_eq, agO_eq, idxM_loc, augD_add, augD_sub, xS_expr, xS_ret, xS_retN, xS_ite, brS_t, brS_f, xS_wh, whB_t, whB_f, whK_n, whK_c, whK_b, whK_r, xS_fo, foT_some, foK_n, foK_c, foK_b, foK_r, xS_brk, xS_cont, xS_pass, xSs_nil, xSs_cons, sqK_n, sqK_r, sqK_b, sqK_c,
  b_add, b_sub, b_mul, b_mulL, b_mulR, b_fdiv, b_mod, b_pow, b_addT, b_addL, addL_ok, b_repT, k_lt, k_le, k_gt, k_ge, k_eq, k_ne, k_isN, k_notN, k_in, k_nin, tr_str, q_int, q_bl, q_str, ofB_some, Option.map_some, tr_bl, tr_int, tr_non, tr_tup, tr_loc, trK_ok, td_bl, td_int, td_tup, i_tup, i_rls, i_loc, idxL_ok, okV_some, at0, at1, at2, at3, at_m1, tupK_ok, lstK_ok, negK_int, p_abs, p_int, p_intB, p_lenT, p_lenR, p_lenL, lenL_ok, p_max, p_min, p_tupT, p_tupL, tupL_ok, p_lstT, p_lstL, lstL_ok, isD_ok, m_app, appL_ok, m_pop, popL_ok, m_rev, revL_ok, recv_ok, recvL_ok, set_loc, setL_ok, setI_ok, new_eq, Bool.not_true, Bool.not_false, if_true, eq_self, decide_true, decide_false,
  List.set_cons_zero, List.set_cons_succ, List.getElem?_cons_zero, List.getElem?_cons_succ, List.length_cons, List.length_nil, Option.some.injEq, *])
local macro_rules | `(tactic| walk_at "evs") => `(tactic| simp (config := { maxSteps := 3000000 }) (disch := first | assumption | omega | exact ⟨by omega, by omega⟩ | exact ⟨⟨by omega, by omega⟩, ⟨by omega, by omega⟩⟩ | exact Nat.le_of_ble_eq_true rfl | decide) only [bnd_ok, bnd_bad, binJ_eq, binK_eq, notK_eq, cmpJ_eq, cmpK_eq, idxJ_eq, idxK_eq, calJ_eq, clkJ_eq, clkK_eq, priJ_eq, isiJ_eq, metJ_eq, metI_t, metK_eq, lcJ_eq, lcK_eq, conJ_eq, conK_eq, andJ_eq, orJ_eq, rg2J_eq, nxtK_eq, setI1_eq, setI2_eq, setI3_eq, retK_eq,  vE_var, varK_ok, vE_int, vE_bl, vE_non, vE_str, vE_tup, vE_lst, vE_bin, vE_neg, vE_not, vE_and, vE_or, vE_cmp, vE_ite, brE_t, brE_f, vE_idx, vE_slc, vE_call, vE_callk, vE_prim, vE_isin, vE_meth, vE_lc, vE_gcon, toD_int, toD_strs, vE_chain, chnI_eq, chnK_eq, chnJ_t, chnJ_f, vE_tupG, tgJ_eq, tgK_eq, vE_qual, qlK_eq, vE_sumG, smK_eq, vE_lc2, l2K_eq, vEs_nil, vEs_cons, vA_one, vA_cons, vO_one, vO_cons, andK_t, andK_f, orK_t, orK_f, vT_nil, vT_cons, vI_seq, seqK_tup, seqK_rls, seqK_loc, seqL_ok, vI_range1, rg1_int, vI_range2, rg2_int,
  xS_asg, asgK_nm, asgT_nm, asgT_tp2, asgT_tp3, asgK_tp2, asgK_tp3, xS_par, parK_2, parK_3, xS_setS, xS_aug, augV_ok, augK_add, augK_sub, xS_augS, agR_some, agD_eq, agX_eq, agI_eq, agO_eq, idxM_loc, augD_add, augD_sub, xS_expr, xS_ret, xS_retN, xS_ite, brS_t, brS_f, xS_wh, whB_t, whB_f, whK_n, whK_c, whK_b, whK_r, xS_fo, foT_some, foK_n, foK_c, foK_b, foK_r, xS_brk, xS_cont, xS_pass, xSs_nil, xSs_cons, sqK_n, sqK_r, sqK_b, sqK_c,
  b_add, b_sub, b_mul, b_mulL, b_mulR, b_fdiv, b_mod, b_pow, b_addT, b_addL, addL_ok, b_repT, k_lt, k_le, k_gt, k_ge, k_eq, k_ne, k_isN, k_notN, k_in, k_nin, tr_str, q_int, q_bl, q_str, ofB_some, Option.map_some, tr_bl, tr_int, tr_non, tr_tup, tr_loc, trK_ok, td_bl, td_int, td_tup, i_tup, i_rls, i_loc, idxL_ok, okV_some, at0, at1, at2, at3, at_m1, tupK_ok, lstK_ok, negK_int, p_abs, p_int, p_intB, p_lenT, p_lenR, p_lenL, lenL_ok, p_max, p_min, p_tupT, p_tupL, tupL_ok, p_lstT, p_lstL, lstL_ok, isD_ok, m_app, appL_ok, m_pop, popL_ok, m_rev, revL_ok, recv_ok, recvL_ok, set_loc, setL_ok, setI_ok, new_eq, Bool.not_true, Bool.not_false, if_true, eq_self, decide_true, decide_false,
  List.set_cons_zero, List.set_cons_succ, List.getElem?_cons_zero, List.getElem?_cons_succ, List.length_cons, List.length_nil, Option.some.injEq, List.cons_append, List.nil_append, List.append_assoc, Nat.reduceAdd, st_get, st_get0, st_set, st_set0, List.length_append, Nat.add_zero, Nat.zero_add, *])

/-! ### a list against the empty list -/
mutual
def noStr : D → Bool
  | .non => true
  | .bl _ => true
  | .int _ => true
  | .tup ds => noStrs ds
  | _ => false
def noStrs : List D → Bool
  | [] => true
  | d :: ds => noStr d && noStrs ds
end
mutual
theorem py_of : ∀ d : D, noStr d = true → ∃ x, pyD d = some x ∧ x.canLay0 = true ∧ x.depth ≤ depD d
  | .non, _ => ⟨.none, rfl, by simp [PyData.canLay0], by simp [PyData.depth]⟩
  | .bl b, _ => ⟨.bool b, rfl, by simp [PyData.canLay0], by simp [PyData.depth]⟩
  | .int i, _ => ⟨.int i, rfl, by simp [PyData.canLay0], by simp [PyData.depth]⟩
  | .str x, h => by cases h
  | .rls x, h => by cases h
  | .loc x, h => by cases h
  | .tup ds, h => by
    unfold noStr at h
    obtain ⟨xs, h1, h2, h3⟩ := pys_of ds h
    refine ⟨.tuple xs, ?_, ?_, ?_⟩
    · unfold pyD; rw [h1]; rfl
    · unfold PyData.canLay0; exact h2
    · unfold PyData.depth depD; omega
theorem pys_of : ∀ ds : List D, noStrs ds = true → ∃ xs, pyDs ds = some xs ∧ PyData.canLayAll0 xs = true ∧ PyData.depthAll xs ≤ depDs ds
  | [], _ => ⟨[], rfl, by simp [PyData.canLayAll0], by simp [PyData.depthAll]⟩
  | d :: ds, h => by
    unfold noStrs at h
    rw [Bool.and_eq_true] at h
    obtain ⟨x, a1, a2, a3⟩ := py_of d h.1
    obtain ⟨xs, h1, h2, h3⟩ := pys_of ds h.2
    refine ⟨x :: xs, ?_, ?_, ?_⟩
    · unfold pyDs; rw [a1, h1]
    · unfold PyData.canLayAll0; rw [a2, h2]; rfl
    · unfold PyData.depthAll depDs; omega
end
theorem pyDs_nil {ds : List D} {xs : List PyData} (h : pyDs ds = some xs) : xs.isEmpty = ds.isEmpty := by
  cases ds with
  | nil => cases h; rfl
  | cons d ds =>
    unfold pyDs at h
    split at h
    · cases h; rfl
    · cases h
theorem q_empty {S : Store} {l m : Nat} {ds : List D} (h1 : S[l]? = some (.lst ds)) (h2 : S[m]? = some (.lst [])) (hn : noStrs ds = true) (hd : depDs ds ≤ 60) : eqD (.loc l) (.loc m) S = some ds.isEmpty := by
  obtain ⟨xs, a1, a2, a3⟩ := pys_of ds hn
  unfold eqD
  have e1 : pyT (.loc l) S = some (.list xs) := by unfold pyT; simp only [h1, a1]; rfl
  have e2 : pyT (.loc m) S = some (.list []) := by unfold pyT; simp only [h2]; rfl
  rw [e1, e2]
  have e3 : SeqAt.shaped (.list xs) = true := by
    unfold SeqAt.shaped
    rw [Bool.and_eq_true, decide_eq_true_eq]
    refine ⟨?_, ?_⟩
    · unfold PyData.canLay0; exact a2
    · unfold PyData.depth; omega
  have e4 : SeqAt.shaped (.list []) = true := by decide
  show (if _ then _ else _) = _
  rw [if_pos ⟨e3, e4⟩]
  rw [← pyDs_nil a1]
  cases xs <;> rfl
theorem noStrs_app : ∀ (xs ys : List D), noStrs (xs ++ ys) = (noStrs xs && noStrs ys)
  | [], ys => rfl
  | x :: xs, ys => by rw [List.cons_append, noStrs, noStrs, noStrs_app xs ys, Bool.and_assoc]
theorem depDs_app : ∀ (xs ys : List D), depDs (xs ++ ys) = max (depDs xs) (depDs ys)
  | [], ys => by rw [List.nil_append, depDs]; omega
  | x :: xs, ys => by rw [List.cons_append, depDs, depDs, depDs_app xs ys]; omega
/-! ### loops that keep a law -/
theorem fo_inv (F : Fns) (t : Tg) (b : Ss) (w : Walk) (Inv : Env → Store → Prop) (hw : ∀ e s, Inv e s → w.here s) : ∀ (items : List D),
    (∀ d ∈ items, ∀ e s, Inv e s → ∃ e1 e2 s2, asgT t d s e = some e1 ∧ exSs F b e1 s = .ok (.next, e2) s2 ∧ Inv e2 s2) →
    ∀ e s, Inv e s → ∃ e2 s2, foS F t b w items e s = .ok (.next, e2) s2 ∧ Inv e2 s2
  | [], _, e, s, h => ⟨e, s, fo_nil _ _ _ _ _ _ (hw e s h), h⟩
  | d :: ds, step, e, s, h => by
    obtain ⟨e1, e2, s2, a1, a2, a3⟩ := step d (List.mem_cons_self ..) e s h
    obtain ⟨e3, s3, b1, b2⟩ := fo_inv F t b w Inv hw ds (fun x hx => step x (List.mem_cons_of_mem _ hx)) e2 s2 a3
    refine ⟨e3, s3, ?_, b2⟩
    rw [fo_cons _ _ _ _ _ _ _ _ (hw e s h), a1, foT_some, a2, bnd_ok, foK_n, b1]
/-! ### cuts -/
theorem cut_tail (d : D) (ds : List D) : cutD (d :: ds) (some 1) none = ds := by
  unfold cutD HT.sIx
  simp
theorem len_map_rng (hi : Int) : (rngK 0 hi).length = hi.toNat := by rw [rng_len]; simp
theorem rng_mem {lo hi : Int} {d : D} (h : d ∈ rngK lo hi) : ∃ i : Int, d = .int i ∧ lo ≤ i ∧ i < hi := by
  unfold rngK at h
  obtain ⟨k, hk, rfl⟩ := List.mem_map.mp h
  rw [List.mem_range] at hk
  exact ⟨_, rfl, by omega, by omega⟩
theorem map_const_rng (n : Nat) (d : D) : (rngK 0 (n : Int)).map (fun _ => d) = List.replicate n d := by
  rw [List.map_const', len_map_rng]
  simp
theorem rep_flat (n : Nat) (d : D) : (List.replicate n [d]).flatten = List.replicate n d := by
  induction n with
  | zero => rfl
  | succ n ih => rw [List.replicate_succ, List.flatten_cons, ih, List.replicate_succ]; rfl
theorem slc_tail (F : Fns) (env : Env) (a : E) (S S1 : Store) (d : D) (ds : List D) (h : evE F a env S = .ok (.tup (d :: ds)) S1) : evE F (.slc a (.cint 1) .absent) env S = .ok (.tup ds) S1 := by
  rw [vE_slc, h, bnd_ok]
  show ((optI (evE F (.cint 1) env S1)).bnd _) = _
  rw [vE_int]
  show slcD (.tup (d :: ds)) (some 1) none S1 = _
  show Res.ok (D.tup (cutD (d :: ds) (some 1) none)) S1 = _
  rw [cut_tail]
/-! ### draws in expressions -/
theorem draw_is {P : Prg} {f : Nat} (hd : DrawOk P f) (N : Nat) (hN : 1 ≤ N) (l : Nat) (m : Int) (Sb G : Store) (hB : Bag Sb l) (h0 : 0 < m) (h1 : m < 2 ^ 60) :
    ∃ r Sb', callN P N f [.loc l, .int m] (Sb ++ G) = .ok (.int r) (Sb' ++ G) ∧ 0 ≤ r ∧ r < m ∧ Bag Sb' l ∧ Sb'.length = Sb.length := by
  obtain ⟨n, rfl⟩ : ∃ n, N = n + 1 := ⟨N - 1, by omega⟩
  exact hd n Sb G l m hB h0 (Nat.lt_of_lt_of_le (by omega : m.natAbs < 2 ^ 60) (pow_le_pow (by decide)))
theorem pick_is {P : Prg} {f : Nat} (hd : PickOk P f) (N : Nat) (hN : 2 ≤ N) (l : Nat) (ds : List D) (Sb G : Store) (hB : Bag Sb l) (h0 : ds ≠ []) (h1 : ds.length ≤ 1000) :
    ∃ d Sb' G', callN P N f [.loc l, .loc (Sb ++ G).length] (Sb ++ G ++ [.lst ds]) = .ok d (Sb' ++ G') ∧ d ∈ ds ∧ Bag Sb' l ∧ Sb'.length = Sb.length := by
  obtain ⟨n, rfl⟩ : ∃ n, N = n + 2 := ⟨N - 2, by omega⟩
  obtain ⟨d, Sb', a, b, c⟩ := hd n Sb (G ++ [.lst ds]) l G.length ds hB (by rw [List.getElem?_append_right (Nat.le_refl _), Nat.sub_self]; rfl) h0 (by omega)
  refine ⟨d, Sb', G ++ [.lst ds], ?_, b, c⟩
  rw [List.length_append, List.append_assoc]
  exact a
theorem picki_is {P : Prg} {f : Nat} (hd : PickOk P f) (N : Nat) (hN : 2 ≤ N) (l : Nat) (ms : List Int) (ds : List D) (hms : ms.map .int = ds) (Sb G : Store) (hB : Bag Sb l) (h0 : ms ≠ []) (h1 : ms.length ≤ 1000) :
    ∃ m Sb' G', callN P N f [.loc l, .loc (Sb ++ G).length] (Sb ++ G ++ [.lst ds]) = .ok (.int m) (Sb' ++ G') ∧ m ∈ ms ∧ Bag Sb' l ∧ Sb'.length = Sb.length := by
  subst hms
  obtain ⟨d, Sb', G', a, b, c⟩ := pick_is hd N hN l (ms.map .int) Sb G hB (fun z => h0 (List.map_eq_nil_iff.mp z)) (by rw [List.length_map]; exact h1)
  obtain ⟨m, hm, rfl⟩ := List.mem_map.mp b
  exact ⟨m, Sb', G', a, hm, c⟩
/-- draw(bag, pick(bag, [..])) -/
theorem dp_is {P : Prg} {f g : Nat} (hd : DrawOk P f) (hp : PickOk P g) (N : Nat) (hN : 2 ≤ N) (l : Nat) (ms : List Int) (ds : List D) (hms : ms.map .int = ds) (Sb G : Store) (hB : Bag Sb l) (h0 : ms ≠ []) (h1 : ms.length ≤ 1000)
    (hm : ∀ m ∈ ms, 0 < m ∧ m < 2 ^ 60) :
    ∃ r m Sb1 Sb2 G', callN P N g [.loc l, .loc (Sb ++ G).length] (Sb ++ G ++ [.lst ds]) = .ok (.int m) (Sb1 ++ G') ∧ callN P N f [.loc l, .int m] (Sb1 ++ G') = .ok (.int r) (Sb2 ++ G') ∧ 0 ≤ r ∧ m ∈ ms ∧ r < m ∧ Bag Sb2 l ∧ Sb2.length = Sb.length := by
  obtain ⟨m, Sb1, G1, a, b, c, d⟩ := picki_is hp N hN l ms ds hms Sb G hB h0 h1
  obtain ⟨m0, m1⟩ := hm m b
  obtain ⟨r, Sb2, a2, b2, c2, d2, e2⟩ := draw_is hd N (by omega) l m Sb1 G1 c m0 m1
  exact ⟨r, m, Sb1, Sb2, G1, a, a2, b2, b, c2, d2, by omega⟩
theorem seq_ex {F : Fns} {s : St} {ss : Ss} {env : Env} {S : Store} {Q : Res (Flow × Env) → Prop} (env' : Env) (S' : Store) (h : exS F s env S = .ok (.next, env') S') (q : Q (exSs F ss env' S')) : Q (exSs F (.cons s ss) env S) := by
  rw [xSs_cons, h, bnd_ok, sqK_n]
  exact q
/-- a list comprehension of numbers whose turns may change the store -/
theorem lc_eff (F : Fns) (env : Env) (t : Tg) (own : List Nat) (elt : E) (w : Walk) (Inv : Store → Prop) (R : Int → Prop) (hw : ∀ s, Inv s → w.here s) : ∀ (items acc : List D) (S : Store), Inv S → acc.length + items.length < LINE →
    (∀ d ∈ items, ∀ S, Inv S → ∃ env1 x S', asgT t d S (wipeE env own) = some env1 ∧ evE F elt env1 S = .ok (.int x) S' ∧ R x ∧ Inv S') →
    ∃ (xs : List Int) (S' : Store), lcS F env t own .nil elt w items acc S = .ok (acc ++ xs.map .int) S' ∧ xs.length = items.length ∧ (∀ x ∈ xs, R x) ∧ Inv S'
  | [], acc, S, hI, _, _ => ⟨[], S, by rw [lc_nil _ _ _ _ _ _ _ _ _ (hw S hI), List.map_nil, List.append_nil], rfl, (by simp), hI⟩
  | d :: ds, acc, S, hI, hl, h => by
    obtain ⟨env1, x, S1, e1, e2, r1, i1⟩ := h d (List.mem_cons_self ..) S hI
    rw [List.length_cons] at hl
    obtain ⟨xs, S2, a, b, c, e⟩ := lc_eff F env t own elt w Inv R hw ds (acc ++ [.int x]) S1 i1 (by rw [List.length_append]; simp only [List.length_cons, List.length_nil]; omega) (fun z hz => h z (List.mem_cons_of_mem _ hz))
    refine ⟨x :: xs, S2, ?_, by rw [List.length_cons, List.length_cons, b], ?_, e⟩
    · rw [lc_cons _ _ _ _ _ _ _ _ _ _ _ (hw S hI), e1]
      unfold lcT
      dsimp only
      rw [vT_nil, bnd_ok]
      unfold lcB
      rw [if_pos rfl, e2, bnd_ok, if_pos (by omega), a, List.map_cons, List.append_assoc]
      rfl
    · intro z hz
      rcases List.mem_cons.mp hz with rfl | hz
      · exact r1
      · exact c z hz
end
end SX
namespace SX
open PySem PySem.Spec PyProof.Rows L2
noncomputable section
open Classical
/-! ### the end -/
theorem tab_of {q : Program} {mg : Str → Option Value} {h : Heap} {K : PySem.W.Frag} {f c P : Addr} {nm : Str} {oc e : Value} {od dd : Option Addr} {sl s2 : Array (Option Value)} {fd : FuncData} {vs : Array Value} (X : K.In h) (hT : GX.TabsAt q mg h) (hr : ((recsOf q).any fun d => d.name == nm) = true)
    (hm : mg nm = some (.ref f)) (l : K.lookup f = some ⟨oc, od, .func fd, sl⟩) (hc : fd.code = .ref c) (m : K.lookup c = some ⟨e, dd, .fields vs, s2⟩) (p : vs[11]? = some (.ref P)) :
    h.get? P = some { cls := .none, data := .fields #[] } ∧ PySem.W.CodeHd h c P := by
  obtain ⟨d, hd, hn⟩ := List.any_eq_true.mp hr
  obtain ⟨a, o, fd', c', P', x1, x2, x3, x4, x5, x6⟩ := hT d hd
  rw [beq_iff_eq.mp hn, hm] at x1
  cases x1
  have y1 := X _ _ l
  rw [y1] at x2
  cases x2
  cases x3
  rw [hc] at x4
  cases x4
  have key : P' = P := by
    obtain ⟨⟨oc2, vs2, z1, z2, z3, z4⟩, _⟩ := x6
    have y2 := X _ _ m
    rw [y2] at z1
    cases z1
    cases z3
    rw [p] at z4
    cases z4
    rfl
  rw [key] at x5 x6
  exact ⟨x6.2, PySem.W.CodeHd.of x5 x6⟩
variable [Tabs]
theorem con_int {K : PySem.W.Frag} {mg : Str → Option Value} {x : Str} {i : Int} {t : Tok} (h : mg x = some (.int i t)) : ConOk K mg x (.int i) := ⟨.int i, .int i t, h, ⟨t, rfl⟩, fun _ _ => to_int _⟩
theorem law_at {l : PySem.W.OpenLaw} {w : World} {K : PySem.W.Frag} {mg : Str → Option Value} {fa : Addr} {h : Heap} {T : List Def} {bl : List Str} {kw : Kws} {co : Cos} {LV i : Nat} {d : Def} {fdat : FuncData}
    (hs : ∀ (f : Nat) (d : Def), T[f]? = some d → DefS T bl kw co d) (hk : ∀ (f : Nat) (d : Def), T[f]? = some d → DefK K mg kw f d) (hb : ∀ x, bl.contains x = true → mg x = none) (hco : ∀ x k, (x, k) ∈ co → ConOk K mg x k)
    (hi : T[i]? = some d) (hps : d.ps = [("script" : Str)]) (hm : mg d.name = some (.ref fa)) (F : Fun K d.name d.qual d.st fa fdat) (hbd : ∀ (s : Shared) (u : Value), BindsTo s fdat ⟨[u], []⟩ [(("script" : Str), u)])
    (hT : ∀ p ∈ Tabs.cs, (h.get? p.2 = some { cls := .none, data := .fields #[] } ∧ PySem.W.CodeHd h p.1 p.2) ∧ K.lookup p.2 = none)
    (main : ∀ ns : List Int, ns.length ≤ 63 → (∃ S', callN (prg T) LV i [.rls (ns.map .int)] [] = .ok (.bl true) S') ∧ ∃ S', callN (prg T) LV i [.loc 0] [.lst (ns.map .int)] = .ok (.bl true) S') :
    LamX.LawAtS l w K CX0 (8 * LV) 63 "script" mg fa h := by
  refine ⟨fdat, Tabs.cs, GSp K 1 (callN (prg T) LV i), fun p hp => (hT p hp).1.1, fun p hp => (hT p hp).2, fun p hp => (hT p hp).1.2, hbd, fun H a ns h1 _ h2 h3 => law_sp h2 h3 (main ns h1).1 (main ns h1).2, fun base _ _ tb => ?_⟩
  have := callN_ok (P := l.prog) (w := w) hs hk hb hco (fun p hp => ⟨(tb p hp).code, (tb p hp).bm, (tb p hp).gP⟩) LV i d fa fdat hi hm F
  rw [hps] at this
  exact this
end
end SX
namespace SX
open PySem PySem.Spec PyProof.Rows L2
noncomputable section
open Classical
local macro_rules | `(tactic| walk_at "ev") => `(tactic| simp (config := { maxSteps := 3000000 }) (disch := first | assumption | omega | exact ⟨by omega, by omega⟩ | exact ⟨⟨by omega, by omega⟩, ⟨by omega, by omega⟩⟩ | exact Nat.le_of_ble_eq_true rfl | decide) only [bnd_ok, bnd_bad, binJ_eq, binK_eq, notK_eq, cmpJ_eq, cmpK_eq, idxJ_eq, idxK_eq, calJ_eq, clkJ_eq, clkK_eq, priJ_eq, isiJ_eq, metJ_eq, metI_t, metK_eq, lcJ_eq, lcK_eq, conJ_eq, conK_eq, andJ_eq, orJ_eq, rg2J_eq, nxtK_eq, setI1_eq, setI2_eq, setI3_eq, retK_eq,  vE_var, varK_ok, vE_int, vE_bl, vE_non, vE_str, vE_tup, vE_lst, vE_bin, vE_neg, vE_not, vE_and, vE_or, vE_cmp, vE_ite, brE_t, brE_f, vE_idx, vE_slc, vE_call, vE_callk, vE_prim, vE_isin, vE_meth, vE_lc, vE_gcon, toD_int, toD_strs, vE_chain, chnI_eq, chnK_eq, chnJ_t, chnJ_f, vE_tupG, tgJ_eq, tgK_eq, vE_qual, qlK_eq, vE_sumG, smK_eq, vE_lc2, l2K_eq, vEs_nil, vEs_cons, vA_one, vA_cons, vO_one, vO_cons, andK_t, andK_f, orK_t, orK_f, vT_nil, vT_cons, vI_seq, seqK_tup, seqK_rls, seqK_loc, seqL_ok, vI_range1, rg1_int, vI_range2, rg2_int,
  xS_asg, asgK_nm, asgT_nm, asgT_tp2, asgT_tp3, asgK_tp2, asgK_tp3, xS_par, parK_2, parK_3, xS_setS, xS_aug, augV_ok, augK_add, augK_sub, xS_augS, agR_some, agD_eq, agX_eq, agI_eq, agO_eq, idxM_loc, augD_add, augD_sub, xS_expr, xS_ret, xS_retN, xS_ite, brS_t, brS_f, xS_wh, whB_t, whB_f, whK_n, whK_c, whK_b, whK_r, xS_fo, foT_some, foK_n, foK_c, foK_b, foK_r, xS_brk, xS_cont, xS_pass, xSs_nil, xSs_cons, sqK_n, sqK_r, sqK_b, sqK_c,
  b_add, b_sub, b_mul, b_mulL, b_mulR, b_fdiv, b_mod, b_pow, b_addT, b_addL, addL_ok, b_repT, k_lt, k_le, k_gt, k_ge, k_eq, k_ne, k_isN, k_notN, k_in, k_nin, tr_str, q_int, q_bl, q_str, ofB_some, Option.map_some, tr_bl, tr_int, tr_non, tr_tup, tr_loc, trK_ok, td_bl, td_int, td_tup, i_tup, i_rls, i_loc, idxL_ok, okV_some, at0, at1, at2, at3, at_m1, tupK_ok, lstK_ok, negK_int, p_abs, p_int, p_intB, p_lenT, p_lenR, p_lenL, lenL_ok, p_max, p_min, p_tupT, p_tupL, tupL_ok, p_lstT, p_lstL, lstL_ok, isD_ok, m_app, appL_ok, m_pop, popL_ok, m_rev, revL_ok, recv_ok, recvL_ok, set_loc, setL_ok, setI_ok, new_eq, Bool.not_true, Bool.not_false, if_true, eq_self, decide_true, decide_false,
  List.set_cons_zero, List.set_cons_succ, List.getElem?_cons_zero, List.getElem?_cons_succ, List.length_cons, List.length_nil, Option.some.injEq])
local macro_rules | `(tactic| walk_at "ev*") => `(tactic| simp (config := { maxSteps := 3000000 }) (disch := first | assumption | omega | exact ⟨by omega, by omega⟩ | exact ⟨⟨by omega, by omega⟩, ⟨by omega, by omega⟩⟩ | exact Nat.le_of_ble_eq_true rfl | decide) only [bnd_ok, bnd_bad, binJ_eq, binK_eq, notK_eq, cmpJ_eq, cmpK_eq, idxJ_eq, idxK_eq, calJ_eq, clkJ_eq, clkK_eq, priJ_eq, isiJ_eq, metJ_eq, metI_t, metK_eq, lcJ_eq, lcK_eq, conJ_eq, conK_eq, andJ_eq, orJ_eq, rg2J_eq, nxtK_eq, setI1_eq, setI2_eq, setI3_eq, retK_eq,  vE_var, varK_ok, vE_int, vE_bl, vE_non, vE_str, vE_tup, vE_lst, vE_bin, vE_neg, vE_not, vE_and, vE_or, vE_cmp, vE_ite, brE_t, brE_f, vE_idx, vE_slc, vE_call, vE_callk, vE_prim, vE_isin, vE_meth, vE_lc, vE_gcon, toD_int, toD_strs, vE_chain, chnI_eq, chnK_eq, chnJ_t, chnJ_f, vE_tupG, tgJ_eq, tgK_eq, vE_qual, qlK_eq, vE_sumG, smK_eq, vE_lc2, l2K_eq, vEs_nil, vEs_cons, vA_one, vA_cons, vO_one, vO_cons, andK_t, andK_f, orK_t, orK_f, vT_nil, vT_cons, vI_seq, seqK_tup, seqK_rls, seqK_loc, seqL_ok, vI_range1, rg1_int, vI_range2, rg2_int,
  xS_asg, asgK_nm, asgT_nm, asgT_tp2, asgT_tp3, asgK_tp2, asgK_tp3, xS_par, parK_2, parK_3, xS_setS, xS_aug, augV_ok, augK_add, augK_sub, xS_augS, agR_some, agD_eq, agX_eq, agI_eq, agO_eq, idxM_loc, augD_add, augD_sub, xS_expr, xS_ret, xS_retN, xS_ite, brS_t, brS_f, xS_wh, whB_t, whB_f, whK_n, whK_c, whK_b, whK_r, xS_fo, foT_some, foK_n, foK_c, foK_b, foK_r, xS_brk, xS_cont, xS_pass, xSs_nil, xSs_cons, sqK_n, sqK_r, sqK_b, sqK_c,
  b_add, b_sub, b_mul, b_mulL, b_mulR, b_fdiv, b_mod, b_pow, b_addT, b_addL, addL_ok, b_repT, k_lt, k_le, k_gt, k_ge, k_eq, k_ne, k_isN, k_notN, k_in, k_nin, tr_str, q_int, q_bl, q_str, ofB_some, Option.map_some, tr_bl, tr_int, tr_non, tr_tup, tr_loc, trK_ok, td_bl, td_int, td_tup, i_tup, i_rls, i_loc, idxL_ok, okV_some, at0, at1, at2, at3, at_m1, tupK_ok, lstK_ok, negK_int, p_abs, p_int, p_intB, p_lenT, p_lenR, p_lenL, lenL_ok, p_max, p_min, p_tupT, p_tupL, tupL_ok, p_lstT, p_lstL, lstL_ok, isD_ok, m_app, appL_ok, m_pop, popL_ok, m_rev, revL_ok, recv_ok, recvL_ok, set_loc, setL_ok, setI_ok, new_eq, Bool.not_true, Bool.not_false, if_true, eq_self, decide_true, decide_false,
  List.set_cons_zero, List.set_cons_succ, List.getElem?_cons_zero, List.getElem?_cons_succ, List.length_cons, List.length_nil, Option.some.injEq, *])
local macro_rules | `(tactic| walk_at "evs") => `(tactic| simp (config := { maxSteps := 3000000 }) (disch := first | assumption | omega | exact ⟨by omega, by omega⟩ | exact ⟨⟨by omega, by omega⟩, ⟨by omega, by omega⟩⟩ | exact Nat.le_of_ble_eq_true rfl | decide) only [bnd_ok, bnd_bad, binJ_eq, binK_eq, notK_eq, cmpJ_eq, cmpK_eq, idxJ_eq, idxK_eq, calJ_eq, clkJ_eq, clkK_eq, priJ_eq, isiJ_eq, metJ_eq, metI_t, metK_eq, lcJ_eq, lcK_eq, conJ_eq, conK_eq, andJ_eq, orJ_eq, rg2J_eq, nxtK_eq, setI1_eq, setI2_eq, setI3_eq, retK_eq,  vE_var, varK_ok, vE_int, vE_bl, vE_non, vE_str, vE_tup, vE_lst, vE_bin, vE_neg, vE_not, vE_and, vE_or, vE_cmp, vE_ite, brE_t, brE_f, vE_idx, vE_slc, vE_call, vE_callk, vE_prim, vE_isin, vE_meth, vE_lc, vE_gcon, toD_int, toD_strs, vE_chain, chnI_eq, chnK_eq, chnJ_t, chnJ_f, vE_tupG, tgJ_eq, tgK_eq, vE_qual, qlK_eq, vE_sumG, smK_eq, vE_lc2, l2K_eq, vEs_nil, vEs_cons, vA_one, vA_cons, vO_one, vO_cons, andK_t, andK_f, orK_t, orK_f, vT_nil, vT_cons, vI_seq, seqK_tup, seqK_rls, seqK_loc, seqL_ok, vI_range1, rg1_int, vI_range2, rg2_int,
  xS_asg, asgK_nm, asgT_nm, asgT_tp2, asgT_tp3, asgK_tp2, asgK_tp3, xS_par, parK_2, parK_3, xS_setS, xS_aug, augV_ok, augK_add, augK_sub, xS_augS, agR_some, agD_eq, agX_eq, agI_eq, agO_eq, idxM_loc, augD_add, augD_sub, xS_expr, xS_ret, xS_retN, xS_ite, brS_t, brS_f, xS_wh, whB_t, whB_f, whK_n, whK_c, whK_b, whK_r, xS_fo, foT_some, foK_n, foK_c, foK_b, foK_r, xS_brk, xS_cont, xS_pass, xSs_nil, xSs_cons, sqK_n, sqK_r, sqK_b, sqK_c,
  b_add, b_sub, b_mul, b_mulL, b_mulR, b_fdiv, b_mod, b_pow, b_addT, b_addL, addL_ok, b_repT, k_lt, k_le, k_gt, k_ge, k_eq, k_ne, k_isN, k_notN, k_in, k_nin, tr_str, q_int, q_bl, q_str, ofB_some, Option.map_some, tr_bl, tr_int, tr_non, tr_tup, tr_loc, trK_ok, td_bl, td_int, td_tup, i_tup, i_rls, i_loc, idxL_ok, okV_some, at0, at1, at2, at3, at_m1, tupK_ok, lstK_ok, negK_int, p_abs, p_int, p_intB, p_lenT, p_lenR, p_lenL, lenL_ok, p_max, p_min, p_tupT, p_tupL, tupL_ok, p_lstT, p_lstL, lstL_ok, isD_ok, m_app, appL_ok, m_pop, popL_ok, m_rev, revL_ok, recv_ok, recvL_ok, set_loc, setL_ok, setI_ok, new_eq, Bool.not_true, Bool.not_false, if_true, eq_self, decide_true, decide_false,
  List.set_cons_zero, List.set_cons_succ, List.getElem?_cons_zero, List.getElem?_cons_succ, List.length_cons, List.length_nil, Option.some.injEq, List.cons_append, List.nil_append, List.append_assoc, Nat.reduceAdd, st_get, st_get0, st_set, st_set0, List.length_append, Nat.add_zero, Nat.zero_add, *])

/-! ### lengths of timers -/
abbrev Fr := Int × Int
def stepF (p : Fr × Fr) (r : Int) : Fr × Fr :=
  (plusF (timesF (7, 8) p.1) (lowF r 8), plusF (timesF (3, 4) p.2) (timesF (1, 4) (lowF ((p.1.1 - r * p.1.2).natAbs : Int) p.1.2)))
def firstF (r : Int) : Fr × Fr := ((r, 1), lowF r 2)
def runF : Fr × Fr → List Int → List (Fr × Fr)
  | _, [] => []
  | p, r :: rs => stepF p r :: runF (stepF p r) rs
def lastF : Fr × Fr → List Int → Fr × Fr
  | p, [] => p
  | p, r :: rs => lastF (stepF p r) rs
def lensF : List Int → List (Fr × Fr)
  | [] => []
  | r :: rs => firstF r :: runF (firstF r) rs
def pairD (p : Fr × Fr) : D := .tup [frD p.1, frD p.2]
structure OkP (k : Nat) (p : Fr × Fr) : Prop where
  a : Fb (2 * 8 ^ k) (10000 * 4 ^ k) p.1
  b : Fb (2 * 8 ^ k) (10000 * 4 ^ k) p.2
def Rg (r : Int) : Prop := 0 < r ∧ r ≤ 10000
theorem ok_first {r : Int} (h : Rg r) : OkP 0 (firstF r) := by
  obtain ⟨h1, h2⟩ := h
  refine ⟨⟨(by decide : (0 : Int) < 1), ⟨2, rfl⟩, ?_⟩, fb_fr (by decide) ⟨1, rfl⟩ ?_⟩
  · show r.natAbs ≤ 10000 * 4 ^ 0 * (1 : Int).natAbs
    simp; omega
  · simp; omega
theorem ok_off {k : Nat} {p : Fr × Fr} {r : Int} (hp : OkP k p) (h : Rg r) : Fb (2 * 8 ^ k) (10000 * 4 ^ k + 10000) (lowF ((p.1.1 - r * p.1.2).natAbs : Int) p.1.2) := by
  refine fb_fr hp.a.pos hp.a.dvd ?_
  rw [Int.natAbs_natCast]
  have h1 := hp.a.le
  have h2 : (r * p.1.2).natAbs ≤ 10000 * p.1.2.natAbs := by
    rw [Int.natAbs_mul]
    exact Nat.mul_le_mul_right _ (by have := h.1; have := h.2; omega)
  rw [Nat.add_mul]
  omega
abbrev Lv (k : Nat) (p : Fr) : Prop := Fb (2 * 8 ^ k) (10000 * 4 ^ k) p
theorem lv_sm {k : Nat} {p : Fr} (hp : Lv k p) (hk : k ≤ 100) : Sm p := by
  have h8 : 2 * 8 ^ k < 2 ^ 1500 := by
    have : 2 * 8 ^ k = 2 ^ (1 + 3 * k) := by rw [Nat.pow_add, Nat.pow_mul]
    rw [this]
    exact Nat.pow_lt_pow_right (by decide) (by omega)
  have h4 : 10000 * 4 ^ k < 2 ^ 1500 := by
    have e : 2 ^ 14 * 4 ^ k = 2 ^ (14 + 2 * k) := by rw [Nat.pow_add, Nat.pow_mul]
    have : 2 ^ (14 + 2 * k) < 2 ^ 1500 := Nat.pow_lt_pow_right (by decide) (by omega)
    have e5 : 10000 * 4 ^ k ≤ 2 ^ 14 * 4 ^ k := Nat.mul_le_mul_right _ (by decide)
    omega
  have h0 : 0 < 2 * 8 ^ k := Nat.mul_pos (by decide) (Nat.pow_pos (by decide))
  exact hp.sm h0 h8 h4
theorem lv_parts {k : Nat} {p : Fr × Fr} {r : Int} (hp : OkP k p) (h : Rg r) : Lv (k + 1) (timesF (7, 8) p.1) ∧ Lv (k + 1) (lowF r 8) ∧ Lv (k + 1) (timesF (3, 4) p.2) ∧ Lv (k + 1) (lowF ((p.1.1 - r * p.1.2).natAbs : Int) p.1.2) ∧ Lv (k + 1) (timesF (1, 4) (lowF ((p.1.1 - r * p.1.2).natAbs : Int) p.1.2)) ∧ OkP (k + 1) (stepF p r) := by
  have e8 : (8 : Nat) ^ (k + 1) = 8 ^ k * 8 := Nat.pow_succ ..
  have e4 : (4 : Nat) ^ (k + 1) = 4 ^ k * 4 := Nat.pow_succ ..
  have p4 : 1 ≤ 4 ^ k := Nat.pos_of_ne_zero (by have := Nat.pow_pos (n := k) (show 0 < 4 by decide); omega)
  have l78 : Fb 8 1 (7, 8) := ⟨by decide, ⟨1, rfl⟩, by decide⟩
  have l34 : Fb 4 1 (3, 4) := ⟨by decide, ⟨1, rfl⟩, by decide⟩
  have l14 : Fb 4 1 (1, 4) := ⟨by decide, ⟨1, rfl⟩, by decide⟩
  have a1 := (fb_times l78 hp.a).up (E := 2 * 8 ^ (k + 1)) ⟨1, by omega⟩
  have a2 : Fb 8 10000 (lowF r 8) := fb_fr (by decide) ⟨1, rfl⟩ (by have := h.1; have := h.2; omega)
  have a3 := a2.up (E := 2 * 8 ^ (k + 1)) ⟨2 * 8 ^ k, by omega⟩
  have b1 := (fb_times l34 hp.b).up (E := 2 * 8 ^ (k + 1)) ⟨2, by omega⟩
  have b2 := (ok_off hp h).up (E := 2 * 8 ^ (k + 1)) ⟨8, by omega⟩
  have b3 := (fb_times l14 (ok_off hp h)).up (E := 2 * 8 ^ (k + 1)) ⟨2, by omega⟩
  exact ⟨a1.mono (by omega), a3.mono (by omega), b1.mono (by omega), b2.mono (by omega), b3.mono (by omega), (fb_plus a1 a3).mono (by omega), (fb_plus b1 b3).mono (by omega)⟩
theorem ok_sm {k : Nat} {p : Fr × Fr} (hp : OkP k p) (hk : k ≤ 100) : Sm p.1 ∧ Sm p.2 := ⟨lv_sm hp.a hk, lv_sm hp.b hk⟩
def B_smoothed (pl ti gp : Nat) : Ss := .cons (.asg (.nm 3) (.tup (.cons (.var 2) (.cons (.cint 1) .nil)))) (.cons (.asg (.nm 1) (.call pl (.cons (.call ti (.cons (.tup (.cons (.cint 3) (.cons (.cint 4) .nil))) (.cons (.var 1) .nil))) (.cons (.call ti (.cons (.tup (.cons (.cint 1) (.cons (.cint 4) .nil))) (.cons (.call gp (.cons (.var 0) (.cons (.var 3) .nil))) .nil))) .nil)))) (.cons (.ret (.tup (.cons (.call pl (.cons (.call ti (.cons (.tup (.cons (.cint 7) (.cons (.cint 8) .nil))) (.cons (.var 0) .nil))) (.cons (.call ti (.cons (.tup (.cons (.cint 1) (.cons (.cint 8) .nil))) (.cons (.var 3) .nil))) .nil))) (.cons (.var 1) .nil)))) .nil))
def B_first (fr : Nat) : Ss := .cons (.ret (.tup (.cons (.tup (.cons (.var 0) (.cons (.cint 1) .nil))) (.cons (.call fr (.cons (.var 0) (.cons (.cint 2) .nil))) .nil)))) .nil
def B_lengthof (pl mo ti : Nat) : Ss := .cons (.ret (.call pl (.cons (.var 0) (.cons (.call mo (.cons (.tup (.cons (.var 2) (.cons (.cint 1) .nil))) (.cons (.call ti (.cons (.tup (.cons (.cint 4) (.cons (.cint 1) .nil))) (.cons (.var 1) .nil))) .nil))) .nil)))) .nil
def B_lengths (fp sm : Nat) : Ss := .cons (.asg (.nm 1) (.lst (.cons (.call fp (.cons (.idx (.var 0) (.cint 0)) .nil)) .nil))) (.cons (.fo (.nm 2) (.seq (.slc (.var 0) (.cint 1) (.absent))) (.cons (.asg (.tp (.cons (.nm 3) (.cons (.nm 4) .nil))) (.idx (.var 1) (.neg (.cint 1)))) (.cons (.expr (.meth .append (.var 1) (.cons (.call sm (.cons (.var 3) (.cons (.var 4) (.cons (.var 2) .nil)))) .nil))) .nil))) (.cons (.ret (.prim .tuple (.cons (.var 1) .nil))) .nil))
def B_least (ln lo : Nat) : Ss := .cons (.asg (.tp (.cons (.nm 4) (.cons (.nm 5) .nil))) (.idx (.call ln (.cons (.bin .mul (.tup (.cons (.var 0) .nil)) (.var 2)) .nil)) (.neg (.cint 1)))) (.cons (.ret (.call lo (.cons (.var 4) (.cons (.var 5) (.cons (.var 3) .nil))))) .nil)
theorem sm_of {a b : Int} (ha : a.natAbs < 2 ^ 64) (h0 : 0 < b) (hb : b.natAbs < 2 ^ 64) : Sm (a, b) := by
  have : (2 : Nat) ^ 64 ≤ 2 ^ 3000 := pow_le_pow (by decide)
  exact ⟨Nat.lt_of_lt_of_le ha this, h0, Nat.lt_of_lt_of_le hb this⟩
theorem i_fr (p : Fr) (i : Int) (S : Store) : idxD (frD p) (.int i) S = okV (atI [.int p.1, .int p.2] i) S := rfl
def GapOk (P : Prg) (f : Nat) : Prop := ∀ (n : Nat) (p q : Fr) (S : Store), Sm p → Sm q → callN P (n + 3) f [frD p, frD q] S = .ok (frD (lowF ((p.1 * q.2 - q.1 * p.2).natAbs : Int) (p.2 * q.2))) S
theorem gapOk {P : Prg} {f fr : Nat} (h0 : P f = some ⟨2, 2, B_gap fr, true⟩) (f1 : FrOk P fr) : GapOk P f := by
  intro n p q S hp hq
  rw [callN_eq (n + 2) _ _ (fd := ⟨2, 2, B_gap fr, true⟩) h0 rfl (Nat.le_of_ble_eq_true rfl)]
  refine end_pure (env := [some (frD p), some (frD q)]) ?_ rfl rfl
  show exSs (callN P (n + 2)) (B_gap fr) [some (frD p), some (frD q)] S = _
  unfold B_gap frD
  have c1 := sm_mul hp.n hq.d
  have c2 := sm_mul hq.n hp.d
  have c3 := sm_mul hp.d hq.d
  have d := sm_den hp hq
  have e := f1 n ((p.1 * q.2 - q.1 * p.2).natAbs : Int) (p.2 * q.2) S d.1 d.2
  unfold frD at e
  walk_at "ev*"
def SmOk (P : Prg) (f : Nat) : Prop := ∀ (n : Nat) {k : Nat}, k ≤ 90 → ∀ (p : Fr × Fr), OkP k p → ∀ (r : Int), Rg r → ∀ (S : Store), callN P (n + 4) f [frD p.1, frD p.2, .int r] S = .ok (pairD (stepF p r)) S
theorem smOk {P : Prg} {f pl ti gp : Nat} (h0 : P f = some ⟨3, 4, B_smoothed pl ti gp, true⟩) (pl2 : PlusOk P pl) (ti3 : TimesOk P ti) (e_gap : GapOk P gp) : SmOk P f := by
  intro n k hk p hp r hr S
  rw [callN_eq (n + 3) _ _ (fd := ⟨3, 4, B_smoothed pl ti gp, true⟩) h0 rfl (Nat.le_of_ble_eq_true rfl)]
  refine end_pure (env := [some (frD p.1), some (frD (stepF p r).2), some (.int r), some (.tup [.int r, .int 1])]) ?_ rfl rfl
  show exSs (callN P (n + 3)) (B_smoothed pl ti gp) [some (frD p.1), some (frD p.2), some (.int r), none] S = _
  unfold B_smoothed pairD
  obtain ⟨s1, s2⟩ := ok_sm hp (by omega)
  have s3 : Sm (r, 1) := sm_of (by have := hr.1; have := hr.2; omega) (by decide) (by decide)
  have s4 : Sm (3, 4) := sm_of (by decide) (by decide) (by decide)
  have s5 : Sm (1, 4) := sm_of (by decide) (by decide) (by decide)
  have s6 : Sm (7, 8) := sm_of (by decide) (by decide) (by decide)
  have s7 : Sm (1, 8) := sm_of (by decide) (by decide) (by decide)
  obtain ⟨q1, q2, q3, q4, q5, q6⟩ := lv_parts hp hr
  have q1 := lv_sm q1 (by omega)
  have q2 := lv_sm q2 (by omega)
  have q3 := lv_sm q3 (by omega)
  have q4 := lv_sm q4 (by omega)
  have q5 := lv_sm q5 (by omega)
  have x1 : callN P (n + 3) ti [.tup [.int 3, .int 4], frD p.2] S = .ok (frD (timesF (3, 4) p.2)) S := ti3 n (3, 4) p.2 S s4 s2
  have x2 : callN P (n + 3) gp [frD p.1, .tup [.int r, .int 1]] S = .ok (frD (lowF ((p.1.1 - r * p.1.2).natAbs : Int) p.1.2)) S := by
    have := e_gap n p.1 (r, 1) S s1 s3
    simp only [Int.mul_one] at this
    exact this
  have x3 : callN P (n + 3) ti [.tup [.int 1, .int 4], frD (lowF ((p.1.1 - r * p.1.2).natAbs : Int) p.1.2)] S = .ok (frD (timesF (1, 4) (lowF ((p.1.1 - r * p.1.2).natAbs : Int) p.1.2))) S := ti3 n (1, 4) _ S s5 q4
  have x4 : callN P (n + 3) pl [frD (timesF (3, 4) p.2), frD (timesF (1, 4) (lowF ((p.1.1 - r * p.1.2).natAbs : Int) p.1.2))] S = .ok (frD (stepF p r).2) S := pl2 n _ _ S q3 q5
  have x5 : callN P (n + 3) ti [.tup [.int 7, .int 8], frD p.1] S = .ok (frD (timesF (7, 8) p.1)) S := ti3 n (7, 8) p.1 S s6 s1
  have x6 : callN P (n + 3) ti [.tup [.int 1, .int 8], .tup [.int r, .int 1]] S = .ok (frD (lowF r 8)) S := by
    have := ti3 n (1, 8) (r, 1) S s7 s3
    unfold timesF at this
    simp only [Int.mul_one, Int.one_mul] at this
    exact this
  have x7 : callN P (n + 3) pl [frD (timesF (7, 8) p.1), frD (lowF r 8)] S = .ok (frD (stepF p r).1) S := pl2 n _ _ S q1 q2
  clear q1 q2 q3 q4 q5 q6 s1 s2 s3 s4 s5 s6 s7 hp hr hk
  generalize lowF r 8 = w1 at x6 x7
  walk_at "ev*"
def FpOk (P : Prg) (f : Nat) : Prop := ∀ (n : Nat) (r : Int) (S : Store), callN P (n + 3) f [.int r] S = .ok (pairD (firstF r)) S
theorem fpOk {P : Prg} {f fr : Nat} (h0 : P f = some ⟨1, 1, B_first fr, true⟩) (f1 : FrOk P fr) : FpOk P f := by
  intro n r S
  rw [callN_eq (n + 2) _ _ (fd := ⟨1, 1, B_first fr, true⟩) h0 rfl (Nat.le_of_ble_eq_true rfl)]
  refine end_pure (env := [some (.int r)]) ?_ rfl rfl
  show exSs (callN P (n + 2)) (B_first fr) [some (.int r)] S = _
  unfold B_first pairD
  have e : callN P (n + 2) fr [.int r, .int 2] S = .ok (frD (lowF r 2)) S := f1 n r 2 S (by decide) (Nat.lt_of_lt_of_le (by decide : (2 : Int).natAbs < 2 ^ 2) (pow_le_pow (by decide)))
  walk_at "ev*"
  rfl
def timF (sm sp : Fr) (g : Int) : Fr := plusF sm (moreF (g, 1) (timesF (4, 1) sp))
structure TimOk (sm sp : Fr) (g : Int) : Prop where
  a : Sm sm
  b : Sm sp
  c : Sm (g, 1)
  d : Sm (timesF (4, 1) sp)
theorem sm_more {p q : Fr} (hp : Sm p) (hq : Sm q) : Sm (moreF p q) := by
  unfold moreF
  split
  · exact hq
  · exact hp
def LoOk (P : Prg) (f : Nat) : Prop := ∀ (n : Nat) (sm sp : Fr) (g : Int), TimOk sm sp g → ∀ (S : Store), callN P (n + 4) f [frD sm, frD sp, .int g] S = .ok (frD (timF sm sp g)) S
theorem loOk {P : Prg} {f pl mo ti : Nat} (h0 : P f = some ⟨3, 3, B_lengthof pl mo ti, true⟩) (pl2 : PlusOk P pl) (mo5 : MoreOk P mo) (ti3 : TimesOk P ti) : LoOk P f := by
  intro n sm sp g h S
  rw [callN_eq (n + 3) _ _ (fd := ⟨3, 3, B_lengthof pl mo ti, true⟩) h0 rfl (Nat.le_of_ble_eq_true rfl)]
  refine end_pure (env := [some (frD sm), some (frD sp), some (.int g)]) ?_ rfl rfl
  show exSs (callN P (n + 3)) (B_lengthof pl mo ti) [some (frD sm), some (frD sp), some (.int g)] S = _
  unfold B_lengthof
  have s1 : Sm (4, 1) := sm_of (by decide) (by decide) (by decide)
  have x1 : callN P (n + 3) ti [.tup [.int 4, .int 1], frD sp] S = .ok (frD (timesF (4, 1) sp)) S := ti3 n (4, 1) sp S s1 h.b
  have x2 : callN P (n + 3) mo [.tup [.int g, .int 1], frD (timesF (4, 1) sp)] S = .ok (frD (moreF (g, 1) (timesF (4, 1) sp))) S := mo5 (n + 1) (g, 1) _ S h.c h.d
  have x3 : callN P (n + 3) pl [frD sm, frD (moreF (g, 1) (timesF (4, 1) sp))] S = .ok (frD (timF sm sp g)) S := pl2 n _ _ S h.a (sm_more h.c h.d)
  walk_at "ev*"
/-! ### the lists -/
def lenB (sm : Nat) : Ss := .cons (.asg (.tp (.cons (.nm 3) (.cons (.nm 4) .nil))) (.idx (.var 1) (.neg (.cint 1)))) (.cons (.expr (.meth .append (.var 1) (.cons (.call sm (.cons (.var 3) (.cons (.var 4) (.cons (.var 2) .nil)))) .nil))) .nil)
theorem len_loop {P : Prg} {sm : Nat} (e_smoothed : SmOk P sm) (n : Nat) (S : Store) (x : D) (w : Walk) (hw : ∀ s, w.here s) : ∀ (rs : List Int) (k : Nat) (p : Fr × Fr) (pre : List D) (o2 o3 o4 : Option D), OkP k p → k + rs.length ≤ 90 → (∀ r ∈ rs, Rg r) → pre.length + rs.length < 1000 →
    ∃ o2' o3' o4', foS (callN P (n + 4)) (.nm 2) (lenB sm) w (rs.map .int) [some x, some (.loc S.length), o2, o3, o4] (S ++ [.lst (pre ++ [pairD p])])
      = .ok (.next, [some x, some (.loc S.length), o2', o3', o4']) (S ++ [.lst (pre ++ (p :: runF p rs).map pairD)]) := by
  intro rs
  induction rs with
  | nil =>
    intro k p pre o2 o3 o4 _ _ _ _
    exact ⟨o2, o3, o4, fo_nil _ _ _ _ _ _ (hw _)⟩
  | cons r rs ih =>
    intro k p pre o2 o3 o4 hp hk hr hl
    rw [List.length_cons] at hk hl
    obtain ⟨o2', o3', o4', h⟩ := ih (k + 1) (stepF p r) (pre ++ [pairD p]) (some (.int r)) (some (frD p.1)) (some (frD p.2)) (lv_parts hp (hr r (List.mem_cons_self ..))).2.2.2.2.2 (by omega) (fun z hz => hr z (List.mem_cons_of_mem _ hz)) (by rw [List.length_append]; simp only [List.length_cons, List.length_nil]; omega)
    refine ⟨o2', o3', o4', ?_⟩
    have e := e_smoothed n (by omega) p hp r (hr r (List.mem_cons_self ..)) (S ++ [.lst (pre ++ [pairD p])])
    have L0 : LINE = 16777216 := rfl
    have hL : (pre ++ [pairD p]).length < LINE := by rw [List.length_append]; simp only [List.length_cons, List.length_nil]; omega
    have hx : (S ++ [.lst (pre ++ [pairD p])])[S.length]? = some (.lst (pre ++ [pairD p])) := by rw [st_get0]; rfl
    have hs : (S ++ [SO.lst (pre ++ [pairD p])]).set S.length (.lst (pre ++ [pairD p] ++ [pairD (stepF p r)])) = S ++ [SO.lst (pre ++ [pairD p] ++ [pairD (stepF p r)])] := by rw [st_set0]; rfl
    have t : asgK [some x, some (.loc S.length), some (.int r), o3, o4] (.tp (.cons (.nm 3) (.cons (.nm 4) .nil))) (pairD p) (S ++ [.lst (pre ++ [pairD p])]) = .ok (.next, [some x, some (.loc S.length), some (.int r), some (frD p.1), some (frD p.2)]) (S ++ [.lst (pre ++ [pairD p])]) := rfl
    rw [List.map_cons, fo_cons _ _ _ _ _ _ _ _ (hw _), asgT_nm, foT_some]
    have b : exSs (callN P (n + 4)) (lenB sm) [some x, some (.loc S.length), some (.int r), o3, o4] (S ++ [.lst (pre ++ [pairD p])]) = .ok (.next, [some x, some (.loc S.length), some (.int r), some (frD p.1), some (frD p.2)]) (S ++ [.lst (pre ++ [pairD p] ++ [pairD (stepF p r)])]) := by
      unfold lenB
      clear h ih hr hk hl hp
      walk_at "ev*"
    simp only [List.set_cons_zero, List.set_cons_succ]
    rw [b, bnd_ok, foK_n, h]
    congr 3
    simp only [runF, List.map_cons, List.append_assoc, List.cons_append, List.nil_append]
theorem cl_pairs (n : Nat) : ∀ ps : List (Fr × Fr), clDs n (ps.map pairD) = true
  | [] => rfl
  | p :: ps => by
    rw [List.map_cons, clDs, cl_pairs n ps]
    rfl
def LnOk (P : Prg) (f : Nat) : Prop := ∀ (n : Nat) (rs : List Int), rs ≠ [] → rs.length ≤ 80 → (∀ r ∈ rs, Rg r) → ∀ (S : Store), callN P (n + 5) f [.tup (rs.map .int)] S = .ok (.tup ((lensF rs).map pairD)) S
theorem lnOk {P : Prg} {f fp sm : Nat} (h0 : P f = some ⟨1, 5, B_lengths fp sm, true⟩) (e_first : FpOk P fp) (e_smoothed : SmOk P sm) : LnOk P f := by
  intro n rs hne hl hr S
  cases rs with
  | nil => exact absurd rfl hne
  | cons r rs =>
  rw [callN_eq (n + 4) _ _ (fd := ⟨1, 5, B_lengths fp sm, true⟩) h0 rfl (Nat.le_of_ble_eq_true rfl)]
  obtain ⟨o2, o3, o4, h⟩   := len_loop e_smoothed n S (.tup ((r :: rs).map .int)) ⟨rs.map .int, none⟩ (fun s => here_none s _) rs 0 (firstF r) [] none none none (ok_first (hr r (List.mem_cons_self ..))) (by simp only [List.length_cons] at hl; omega) (fun z hz => hr z (List.mem_cons_of_mem _ hz)) (by simp only [List.length_cons, List.length_nil] at hl ⊢; omega)
  refine end_app (env := [some (.tup ((r :: rs).map .int)), some (.loc S.length), o2, o3, o4]) [.lst ((lensF (r :: rs)).map pairD)] ?_ rfl ?_
  · show exSs (callN P (n + 4)) (B_lengths fp sm) [some (.tup ((r :: rs).map .int)), none, none, none, none] S = _
    unfold B_lengths
    have e := e_first (n + 1) r S
    rw [xSs_cons]
    have s1 : exS (callN P (n + 4)) (.asg (.nm 1) (.lst (.cons (.call fp (.cons (.idx (.var 0) (.cint 0)) .nil)) .nil))) [some (.tup ((r :: rs).map .int)), none, none, none, none] S = .ok (.next, [some (.tup ((r :: rs).map .int)), some (.loc S.length), none, none, none]) (S ++ [.lst [pairD (firstF r)]]) := by
      rw [List.map_cons]
      have e' : callN P (n + 4) fp [.int r] S = .ok (pairD (firstF r)) S := e
      clear e h hr hl
      walk_at "ev*"
    rw [s1, bnd_ok, sqK_n, xSs_cons, xS_fo, vI_seq, slc_tail _ _ _ _ (S ++ [.lst [pairD (firstF r)]]) (.int r) (rs.map .int) (by rw [vE_var]; rfl), bnd_ok, seqK_tup, bnd_ok]
    rw [List.nil_append] at h
    show ((foS (callN P (n + 4)) (.nm 2) (lenB sm) _ (rs.map .int) _ _).bnd _) = _
    rw [h, bnd_ok, sqK_n]
    have hx : (S ++ [SO.lst ([] ++ (firstF r :: runF (firstF r) rs).map pairD)])[S.length]? = some (.lst ((lensF (r :: rs)).map pairD)) := by rw [st_get0]; rfl
    clear h hr hl
    walk_at "ev*"
    rfl
  · exact cl_pairs _ _
/-! ### the last pair -/
def lastOf : List Int → Fr × Fr
  | [] => ((0, 1), (0, 1))
  | r :: rs => lastF (firstF r) rs
theorem run_last : ∀ (rs : List Int) (p : Fr × Fr), ∃ pre, p :: runF p rs = pre ++ [lastF p rs]
  | [], p => ⟨[], rfl⟩
  | r :: rs, p => by
    obtain ⟨pre, h⟩ := run_last rs (stepF p r)
    exact ⟨p :: pre, (congrArg (List.cons p) h).trans rfl⟩
theorem at_last {rs : List Int} (h : rs ≠ []) : atI ((lensF rs).map pairD) (-1) = some (pairD (lastOf rs)) := by
  cases rs with
  | nil => exact absurd rfl h
  | cons r rs =>
    obtain ⟨pre, e⟩ := run_last rs (firstF r)
    show atI ((firstF r :: runF (firstF r) rs).map pairD) (-1) = _
    rw [e, List.map_append]
    exact at_m1 _ _
theorem ok_last : ∀ (rs : List Int) (k : Nat) (p : Fr × Fr), OkP k p → (∀ r ∈ rs, Rg r) → OkP (k + rs.length) (lastF p rs)
  | [], k, p, h, _ => h
  | r :: rs, k, p, h, hr => by
    have := ok_last rs (k + 1) (stepF p r) (lv_parts h (hr r (List.mem_cons_self ..))).2.2.2.2.2 (fun z hz => hr z (List.mem_cons_of_mem _ hz))
    rw [List.length_cons, show k + (rs.length + 1) = k + 1 + rs.length by omega]
    exact this
theorem ok_lastOf {rs : List Int} (h : rs ≠ []) (hl : rs.length ≤ 60) (hr : ∀ r ∈ rs, Rg r) : ∃ k, k ≤ 60 ∧ OkP k (lastOf rs) := by
  cases rs with
  | nil => exact absurd rfl h
  | cons r rs =>
    refine ⟨0 + rs.length, by simp only [List.length_cons] at hl; omega, ?_⟩
    exact ok_last rs 0 (firstF r) (ok_first (hr r (List.mem_cons_self ..))) (fun z hz => hr z (List.mem_cons_of_mem _ hz))
/-- what a timer takes -/
structure Tm (p : Fr) : Prop where
  ex : ∃ D V, 0 < D ∧ D < 2 ^ 1490 ∧ V < 2 ^ 1490 ∧ Fb D V p
theorem Tm.sm {p : Fr} (h : Tm p) : Sm p := by
  obtain ⟨D, V, h0, h1, h2, h3⟩ := h.ex
  exact h3.sm h0 (Nat.lt_of_lt_of_le h1 (pow_le_pow (by decide))) (Nat.lt_of_lt_of_le h2 (pow_le_pow (by decide)))
theorem Tm.four {p : Fr} (h : Tm p) : Sm (timesF (4, 1) p) := by
  obtain ⟨D, V, h0, h1, h2, h3⟩ := h.ex
  have l : Fb 1 4 (4, 1) := ⟨by decide, ⟨1, rfl⟩, by decide⟩
  have e : (2 : Nat) ^ 1500 = 2 ^ 10 * 2 ^ 1490 := by rw [← Nat.pow_add]
  refine (fb_times l h3).sm (by omega) ?_ ?_ <;> rw [e] <;> omega
theorem lv_tm {k : Nat} {p : Fr} (hp : Lv k p) (hk : k ≤ 100) : Tm p := by
  have h8 : 2 * 8 ^ k < 2 ^ 1490 := by
    have : 2 * 8 ^ k = 2 ^ (1 + 3 * k) := by rw [Nat.pow_add, Nat.pow_mul]
    rw [this]
    exact Nat.pow_lt_pow_right (by decide) (by omega)
  have h4 : 10000 * 4 ^ k < 2 ^ 1490 := by
    have e : 2 ^ 14 * 4 ^ k = 2 ^ (14 + 2 * k) := by rw [Nat.pow_add, Nat.pow_mul]
    have : 2 ^ (14 + 2 * k) < 2 ^ 1490 := Nat.pow_lt_pow_right (by decide) (by omega)
    have e5 : 10000 * 4 ^ k ≤ 2 ^ 14 * 4 ^ k := Nat.mul_le_mul_right _ (by decide)
    omega
  exact ⟨_, _, Nat.mul_pos (by decide) (Nat.pow_pos (by decide)), h8, h4, hp⟩
theorem low_tm {a b : Int} (h : 0 < b) (hb : b < 2 ^ 60) (ha : a.natAbs < 2 ^ 60) : Tm (lowF a b) := by
  have hbig : (2 : Nat) ^ 60 ≤ 2 ^ 1490 := pow_le_pow (by decide)
  refine ⟨b.natAbs, a.natAbs, by omega, by omega, by omega, fb_fr h ⟨1, by omega⟩ ?_⟩
  exact Nat.le_mul_of_pos_right _ (by omega)
theorem tim_ok {sm sp : Fr} {g : Int} (h1 : Tm sm) (h2 : Tm sp) (hg : g.natAbs < 2 ^ 60) : TimOk sm sp g := ⟨h1.sm, h2.sm, sm_of (by omega) (by decide) (by decide), h2.four⟩
theorem ok_tm {k : Nat} {p : Fr × Fr} (h : OkP k p) (hk : k ≤ 60) : Tm p.1 ∧ Tm p.2 := ⟨lv_tm h.a (by omega), lv_tm h.b (by omega)⟩
def LeOk (P : Prg) (f : Nat) : Prop := ∀ (n : Nat) (low high : Int) (m : Nat), 1 ≤ m ∧ m ≤ 60 → Rg low → ∀ (g : Int), g.natAbs < 2 ^ 60 → ∀ (S : Store),
    callN P (n + 6) f [.int low, .int high, .int m, .int g] S = .ok (frD (timF (lastOf (List.replicate m low)).1 (lastOf (List.replicate m low)).2 g)) S
theorem leOk {P : Prg} {f ln lo : Nat} (h0 : P f = some ⟨4, 6, B_least ln lo, true⟩) (e_lengths : LnOk P ln) (e_lengthof : LoOk P lo) : LeOk P f := by
  intro n low high m hm hl g hg S
  show callN P (n + 6) f [.int low, .int high, .int m, .int g] S = .ok (frD (timF (lastOf (List.replicate m low)).1 (lastOf (List.replicate m low)).2 g)) S
  rw [callN_eq (n + 5) _ _ (fd := ⟨4, 6, B_least ln lo, true⟩) h0 rfl (Nat.le_of_ble_eq_true rfl)]
  have hne : List.replicate m low ≠ [] := fun z => by
    have := congrArg List.length z
    simp only [List.length_replicate, List.length_nil] at this
    omega
  have hr : ∀ r ∈ List.replicate m low, Rg r := fun r h => by rw [List.mem_replicate] at h; rw [h.2]; exact hl
  have hlen : (List.replicate m low).length ≤ 60 := by rw [List.length_replicate]; exact hm.2
  obtain ⟨k, hk, ok⟩ := ok_lastOf hne hlen hr
  have tt := ok_tm ok hk
  have hat := at_last hne
  have x1 := e_lengths n (List.replicate m low) hne (by omega) hr S
  have x2 : callN P (n + 5) lo [frD (lastOf (List.replicate m low)).1, frD (lastOf (List.replicate m low)).2, .int g] S = .ok (frD (timF (lastOf (List.replicate m low)).1 (lastOf (List.replicate m low)).2 g)) S := e_lengthof (n + 1) _ _ g (tim_ok tt.1 tt.2 hg) S
  have hfl : (List.replicate (m : Int).toNat [D.int low]).flatten = (List.replicate m low).map .int := by
    rw [rep_flat, List.map_replicate]
    rfl
  generalize List.replicate m low = rs at hat x1 x2 hfl
  refine end_pure (env := [some (.int low), some (.int high), some (.int m), some (.int g), some (frD (lastOf rs).1), some (frD (lastOf rs).2)]) ?_ rfl rfl
  show exSs (callN P (n + 5)) (B_least ln lo) [some (.int low), some (.int high), some (.int m), some (.int g), none, none] S = _
  unfold B_least
  have hrep : [D.int low] ≠ [] ∧ 0 ≤ (m : Int) ∧ (m : Int) ≤ 1000 ∧ [D.int low].length ≤ 1000 := ⟨by simp, by omega, by omega, by simp⟩
  have t : asgK [some (.int low), some (.int high), some (.int m), some (.int g), none, none] (.tp (.cons (.nm 4) (.cons (.nm 5) .nil))) (pairD (lastOf rs)) S = .ok (.next, [some (.int low), some (.int high), some (.int m), some (.int g), some (frD (lastOf rs).1), some (frD (lastOf rs).2)]) S := rfl
  clear hne hr hlen hk ok tt hm hl hg
  have hb := b_repT (S := S) hrep
  rw [hfl] at hb
  clear hfl
  walk_at "ev*"
end
end SX
namespace SX
open PySem PySem.Spec PyProof.Rows L2
noncomputable section
open Classical
/-! ### books and roads -/
structure Bk where
  k : Int
  th : Fr
  gr : Int
  fi : Int
  db : Int
  ga : Int
  st : Int
  le : Int
  mo : Int
  cu : Fr
  fa : Int
  ru : Str
  wa : Int
structure Rd where
  lo : Int
  hi : Int
  low : Int
  high : Int
def bkD (b : Bk) : D := .tup [.int b.k, frD b.th, .int b.gr, .int b.fi, .int b.db, .int b.ga, .int b.st, .int b.le, .int b.mo, frD b.cu, .int b.fa, .str b.ru, .int b.wa]
def rdD (r : Rd) : D := .tup [.int r.lo, .int r.hi, .int r.low, .int r.high]
theorem bk0 (b : Bk) (S : Store) : idxD (bkD b) (.int 0) S = .ok (.int b.k) S := rfl
theorem bk1 (b : Bk) (S : Store) : idxD (bkD b) (.int 1) S = .ok (frD b.th) S := rfl
theorem bk2 (b : Bk) (S : Store) : idxD (bkD b) (.int 2) S = .ok (.int b.gr) S := rfl
theorem bk3 (b : Bk) (S : Store) : idxD (bkD b) (.int 3) S = .ok (.int b.fi) S := rfl
theorem bk4 (b : Bk) (S : Store) : idxD (bkD b) (.int 4) S = .ok (.int b.db) S := rfl
theorem bk5 (b : Bk) (S : Store) : idxD (bkD b) (.int 5) S = .ok (.int b.ga) S := rfl
theorem bk6 (b : Bk) (S : Store) : idxD (bkD b) (.int 6) S = .ok (.int b.st) S := rfl
theorem bk7 (b : Bk) (S : Store) : idxD (bkD b) (.int 7) S = .ok (.int b.le) S := rfl
theorem bk8 (b : Bk) (S : Store) : idxD (bkD b) (.int 8) S = .ok (.int b.mo) S := rfl
theorem bk9 (b : Bk) (S : Store) : idxD (bkD b) (.int 9) S = .ok (frD b.cu) S := rfl
theorem bk10 (b : Bk) (S : Store) : idxD (bkD b) (.int 10) S = .ok (.int b.fa) S := rfl
theorem bk11 (b : Bk) (S : Store) : idxD (bkD b) (.int 11) S = .ok (.str b.ru) S := rfl
theorem bk12 (b : Bk) (S : Store) : idxD (bkD b) (.int 12) S = .ok (.int b.wa) S := rfl
theorem rd0 (r : Rd) (S : Store) : idxD (rdD r) (.int 0) S = .ok (.int r.lo) S := rfl
theorem rd1 (r : Rd) (S : Store) : idxD (rdD r) (.int 1) S = .ok (.int r.hi) S := rfl
theorem rd2 (r : Rd) (S : Store) : idxD (rdD r) (.int 2) S = .ok (.int r.low) S := rfl
theorem rd3 (r : Rd) (S : Store) : idxD (rdD r) (.int 3) S = .ok (.int r.high) S := rfl
local macro_rules | `(tactic| walk_at "ev") => `(tactic| simp (config := { maxSteps := 3000000 }) (disch := first | assumption | omega | exact ⟨by omega, by omega⟩ | exact ⟨⟨by omega, by omega⟩, ⟨by omega, by omega⟩⟩ | exact Nat.le_of_ble_eq_true rfl | decide) only [bk0, bk1, bk2, bk3, bk4, bk5, bk6, bk7, bk8, bk9, bk10, bk11, bk12, rd0, rd1, rd2, rd3, bnd_ok, bnd_bad, binJ_eq, binK_eq, notK_eq, cmpJ_eq, cmpK_eq, idxJ_eq, idxK_eq, calJ_eq, clkJ_eq, clkK_eq, priJ_eq, isiJ_eq, metJ_eq, metI_t, metK_eq, lcJ_eq, lcK_eq, conJ_eq, conK_eq, andJ_eq, orJ_eq, rg2J_eq, nxtK_eq, setI1_eq, setI2_eq, setI3_eq, retK_eq,  vE_var, varK_ok, vE_int, vE_bl, vE_non, vE_str, vE_tup, vE_lst, vE_bin, vE_neg, vE_not, vE_and, vE_or, vE_cmp, vE_ite, brE_t, brE_f, vE_idx, vE_slc, vE_call, vE_callk, vE_prim, vE_isin, vE_meth, vE_lc, vE_gcon, toD_int, toD_strs, vE_chain, chnI_eq, chnK_eq, chnJ_t, chnJ_f, vE_tupG, tgJ_eq, tgK_eq, vE_qual, qlK_eq, vE_sumG, smK_eq, vE_lc2, l2K_eq, vEs_nil, vEs_cons, vA_one, vA_cons, vO_one, vO_cons, andK_t, andK_f, orK_t, orK_f, vT_nil, vT_cons, vI_seq, seqK_tup, seqK_rls, seqK_loc, seqL_ok, vI_range1, rg1_int, vI_range2, rg2_int,
  xS_asg, asgK_nm, asgT_nm, asgT_tp2, asgT_tp3, asgK_tp2, asgK_tp3, xS_par, parK_2, parK_3, xS_setS, xS_aug, augV_ok, augK_add, augK_sub, xS_augS, agR_some, agD_eq, agX_eq, agI_eq, agO_eq, idxM_loc, augD_add, augD_sub, xS_expr, xS_ret, xS_retN, xS_ite, brS_t, brS_f, xS_wh, whB_t, whB_f, whK_n, whK_c, whK_b, whK_r, xS_fo, foT_some, foK_n, foK_c, foK_b, foK_r, xS_brk, xS_cont, xS_pass, xSs_nil, xSs_cons, sqK_n, sqK_r, sqK_b, sqK_c,
  b_add, b_sub, b_mul, b_mulL, b_mulR, b_fdiv, b_mod, b_pow, b_addT, b_addL, addL_ok, b_repT, k_lt, k_le, k_gt, k_ge, k_eq, k_ne, k_isN, k_notN, k_in, k_nin, tr_str, q_int, q_bl, q_str, ofB_some, Option.map_some, tr_bl, tr_int, tr_non, tr_tup, tr_loc, trK_ok, td_bl, td_int, td_tup, i_tup, i_rls, i_loc, idxL_ok, okV_some, at0, at1, at2, at3, at_m1, tupK_ok, lstK_ok, negK_int, p_abs, p_int, p_intB, p_lenT, p_lenR, p_lenL, lenL_ok, p_max, p_min, p_tupT, p_tupL, tupL_ok, p_lstT, p_lstL, lstL_ok, isD_ok, m_app, appL_ok, m_pop, popL_ok, m_rev, revL_ok, recv_ok, recvL_ok, set_loc, setL_ok, setI_ok, new_eq, Bool.not_true, Bool.not_false, if_true, eq_self, decide_true, decide_false,
  List.set_cons_zero, List.set_cons_succ, List.getElem?_cons_zero, List.getElem?_cons_succ, List.length_cons, List.length_nil, Option.some.injEq])
local macro_rules | `(tactic| walk_at "ev*") => `(tactic| simp (config := { maxSteps := 3000000 }) (disch := first | assumption | omega | exact ⟨by omega, by omega⟩ | exact ⟨⟨by omega, by omega⟩, ⟨by omega, by omega⟩⟩ | exact Nat.le_of_ble_eq_true rfl | decide) only [bk0, bk1, bk2, bk3, bk4, bk5, bk6, bk7, bk8, bk9, bk10, bk11, bk12, rd0, rd1, rd2, rd3, bnd_ok, bnd_bad, binJ_eq, binK_eq, notK_eq, cmpJ_eq, cmpK_eq, idxJ_eq, idxK_eq, calJ_eq, clkJ_eq, clkK_eq, priJ_eq, isiJ_eq, metJ_eq, metI_t, metK_eq, lcJ_eq, lcK_eq, conJ_eq, conK_eq, andJ_eq, orJ_eq, rg2J_eq, nxtK_eq, setI1_eq, setI2_eq, setI3_eq, retK_eq,  vE_var, varK_ok, vE_int, vE_bl, vE_non, vE_str, vE_tup, vE_lst, vE_bin, vE_neg, vE_not, vE_and, vE_or, vE_cmp, vE_ite, brE_t, brE_f, vE_idx, vE_slc, vE_call, vE_callk, vE_prim, vE_isin, vE_meth, vE_lc, vE_gcon, toD_int, toD_strs, vE_chain, chnI_eq, chnK_eq, chnJ_t, chnJ_f, vE_tupG, tgJ_eq, tgK_eq, vE_qual, qlK_eq, vE_sumG, smK_eq, vE_lc2, l2K_eq, vEs_nil, vEs_cons, vA_one, vA_cons, vO_one, vO_cons, andK_t, andK_f, orK_t, orK_f, vT_nil, vT_cons, vI_seq, seqK_tup, seqK_rls, seqK_loc, seqL_ok, vI_range1, rg1_int, vI_range2, rg2_int,
  xS_asg, asgK_nm, asgT_nm, asgT_tp2, asgT_tp3, asgK_tp2, asgK_tp3, xS_par, parK_2, parK_3, xS_setS, xS_aug, augV_ok, augK_add, augK_sub, xS_augS, agR_some, agD_eq, agX_eq, agI_eq, agO_eq, idxM_loc, augD_add, augD_sub, xS_expr, xS_ret, xS_retN, xS_ite, brS_t, brS_f, xS_wh, whB_t, whB_f, whK_n, whK_c, whK_b, whK_r, xS_fo, foT_some, foK_n, foK_c, foK_b, foK_r, xS_brk, xS_cont, xS_pass, xSs_nil, xSs_cons, sqK_n, sqK_r, sqK_b, sqK_c,
  b_add, b_sub, b_mul, b_mulL, b_mulR, b_fdiv, b_mod, b_pow, b_addT, b_addL, addL_ok, b_repT, k_lt, k_le, k_gt, k_ge, k_eq, k_ne, k_isN, k_notN, k_in, k_nin, tr_str, q_int, q_bl, q_str, ofB_some, Option.map_some, tr_bl, tr_int, tr_non, tr_tup, tr_loc, trK_ok, td_bl, td_int, td_tup, i_tup, i_rls, i_loc, idxL_ok, okV_some, at0, at1, at2, at3, at_m1, tupK_ok, lstK_ok, negK_int, p_abs, p_int, p_intB, p_lenT, p_lenR, p_lenL, lenL_ok, p_max, p_min, p_tupT, p_tupL, tupL_ok, p_lstT, p_lstL, lstL_ok, isD_ok, m_app, appL_ok, m_pop, popL_ok, m_rev, revL_ok, recv_ok, recvL_ok, set_loc, setL_ok, setI_ok, new_eq, Bool.not_true, Bool.not_false, if_true, eq_self, decide_true, decide_false,
  List.set_cons_zero, List.set_cons_succ, List.getElem?_cons_zero, List.getElem?_cons_succ, List.length_cons, List.length_nil, Option.some.injEq, *])
local macro_rules | `(tactic| walk_at "evs") => `(tactic| simp (config := { maxSteps := 3000000 }) (disch := first | assumption | omega | exact ⟨by omega, by omega⟩ | exact ⟨⟨by omega, by omega⟩, ⟨by omega, by omega⟩⟩ | exact Nat.le_of_ble_eq_true rfl | decide) only [bk0, bk1, bk2, bk3, bk4, bk5, bk6, bk7, bk8, bk9, bk10, bk11, bk12, rd0, rd1, rd2, rd3, bnd_ok, bnd_bad, binJ_eq, binK_eq, notK_eq, cmpJ_eq, cmpK_eq, idxJ_eq, idxK_eq, calJ_eq, clkJ_eq, clkK_eq, priJ_eq, isiJ_eq, metJ_eq, metI_t, metK_eq, lcJ_eq, lcK_eq, conJ_eq, conK_eq, andJ_eq, orJ_eq, rg2J_eq, nxtK_eq, setI1_eq, setI2_eq, setI3_eq, retK_eq,  vE_var, varK_ok, vE_int, vE_bl, vE_non, vE_str, vE_tup, vE_lst, vE_bin, vE_neg, vE_not, vE_and, vE_or, vE_cmp, vE_ite, brE_t, brE_f, vE_idx, vE_slc, vE_call, vE_callk, vE_prim, vE_isin, vE_meth, vE_lc, vE_gcon, toD_int, toD_strs, vE_chain, chnI_eq, chnK_eq, chnJ_t, chnJ_f, vE_tupG, tgJ_eq, tgK_eq, vE_qual, qlK_eq, vE_sumG, smK_eq, vE_lc2, l2K_eq, vEs_nil, vEs_cons, vA_one, vA_cons, vO_one, vO_cons, andK_t, andK_f, orK_t, orK_f, vT_nil, vT_cons, vI_seq, seqK_tup, seqK_rls, seqK_loc, seqL_ok, vI_range1, rg1_int, vI_range2, rg2_int,
  xS_asg, asgK_nm, asgT_nm, asgT_tp2, asgT_tp3, asgK_tp2, asgK_tp3, xS_par, parK_2, parK_3, xS_setS, xS_aug, augV_ok, augK_add, augK_sub, xS_augS, agR_some, agD_eq, agX_eq, agI_eq, agO_eq, idxM_loc, augD_add, augD_sub, xS_expr, xS_ret, xS_retN, xS_ite, brS_t, brS_f, xS_wh, whB_t, whB_f, whK_n, whK_c, whK_b, whK_r, xS_fo, foT_some, foK_n, foK_c, foK_b, foK_r, xS_brk, xS_cont, xS_pass, xSs_nil, xSs_cons, sqK_n, sqK_r, sqK_b, sqK_c,
  b_add, b_sub, b_mul, b_mulL, b_mulR, b_fdiv, b_mod, b_pow, b_addT, b_addL, addL_ok, b_repT, k_lt, k_le, k_gt, k_ge, k_eq, k_ne, k_isN, k_notN, k_in, k_nin, tr_str, q_int, q_bl, q_str, ofB_some, Option.map_some, tr_bl, tr_int, tr_non, tr_tup, tr_loc, trK_ok, td_bl, td_int, td_tup, i_tup, i_rls, i_loc, idxL_ok, okV_some, at0, at1, at2, at3, at_m1, tupK_ok, lstK_ok, negK_int, p_abs, p_int, p_intB, p_lenT, p_lenR, p_lenL, lenL_ok, p_max, p_min, p_tupT, p_tupL, tupL_ok, p_lstT, p_lstL, lstL_ok, isD_ok, m_app, appL_ok, m_pop, popL_ok, m_rev, revL_ok, recv_ok, recvL_ok, set_loc, setL_ok, setI_ok, new_eq, Bool.not_true, Bool.not_false, if_true, eq_self, decide_true, decide_false,
  List.set_cons_zero, List.set_cons_succ, List.getElem?_cons_zero, List.getElem?_cons_succ, List.length_cons, List.length_nil, Option.some.injEq, List.cons_append, List.nil_append, List.append_assoc, Nat.reduceAdd, st_get, st_get0, st_set, st_set0, List.length_append, Nat.add_zero, Nat.zero_add, *])

/-! ### the smaller functions -/
def upF (p : Fr) : Int := -(-p.1 / p.2)
/-- what may be multiplied by a length -/
structure Ti (p : Fr) : Prop where
  ex : ∃ D V, 0 < D ∧ D < 2 ^ 1400 ∧ V < 2 ^ 1400 ∧ Fb D V p
theorem Ti.sm {p : Fr} (h : Ti p) : Sm p := by
  obtain ⟨D, V, h0, h1, h2, h3⟩ := h.ex
  exact h3.sm h0 (Nat.lt_of_lt_of_le h1 (pow_le_pow (by decide))) (Nat.lt_of_lt_of_le h2 (pow_le_pow (by decide)))
theorem Ti.times {p : Fr} (h : Ti p) {a : Int} (h0 : 0 ≤ a) (h1 : a < 100000) : Sm (timesF p (a, 1)) := by
  obtain ⟨D, V, d0, d1, d2, d3⟩ := h.ex
  have l : Fb 1 a.natAbs (a, 1) := ⟨(by decide : (0 : Int) < 1), ⟨1, rfl⟩, by simp⟩
  have e : (2 : Nat) ^ 1500 = 2 ^ 100 * 2 ^ 1400 := by rw [← Nat.pow_add]
  refine (fb_times d3 l).sm (by omega) (by rw [e]; omega) ?_
  rw [e]
  have : V * a.natAbs ≤ V * 100000 := Nat.mul_le_mul_left _ (by omega)
  omega
theorem ti_low {a b : Int} (h : 0 < b) (hb : b < 2 ^ 60) (ha : a.natAbs < 2 ^ 60) : Ti (lowF a b) := by
  have hbig : (2 : Nat) ^ 60 ≤ 2 ^ 1400 := pow_le_pow (by decide)
  refine ⟨b.natAbs, a.natAbs, by omega, by omega, by omega, fb_fr h ⟨1, by omega⟩ ?_⟩
  exact Nat.le_mul_of_pos_right _ (by omega)
theorem ti_lit {a b : Int} (h : 0 < b) (hb : b < 2 ^ 60) (ha : a.natAbs < 2 ^ 60) : Ti (a, b) := by
  have hbig : (2 : Nat) ^ 60 ≤ 2 ^ 1400 := pow_le_pow (by decide)
  refine ⟨b.natAbs, a.natAbs, by omega, by omega, by omega, ⟨h, ⟨1, by simp; omega⟩, ?_⟩⟩
  exact Nat.le_mul_of_pos_right _ (by show 0 < b.natAbs; omega)
structure BkOk (b : Bk) : Prop where
  k : 1 ≤ b.k ∧ b.k ≤ 100
  th : Ti b.th
  thp : 0 < b.th.1
  gr : 1 ≤ b.gr ∧ b.gr ≤ 10000
  fi : 1 ≤ b.fi ∧ b.fi ≤ 10000
  ga : 1 ≤ b.ga ∧ b.ga ≤ 1000
  st : 1 ≤ b.st ∧ b.st ≤ b.mo
  mo : b.mo ≤ 1000
  wa : 0 ≤ b.wa ∧ b.wa ≤ 1000
structure RdOk (r : Rd) : Prop where
  lo : 1 ≤ r.lo ∧ r.lo ≤ r.hi
  hi : r.hi ≤ 2000
  low : 1 ≤ r.low ∧ r.low ≤ r.high
  high : r.high ≤ 2000
abbrev Rd.L (r : Rd) : Int := r.lo + r.low
abbrev Rd.T (r : Rd) : Int := r.hi + r.high
abbrev Rd.W (r : Rd) : Int := r.hi - r.lo
def B_up : Ss := .cons (.ret (.neg (.bin .fdiv (.neg (.idx (.var 0) (.cint 0))) (.idx (.var 0) (.cint 1))))) .nil
def B_forth : Ss := .cons (.ret (.tup (.cons (.idx (.var 0) (.cint 0)) (.cons (.idx (.var 0) (.cint 1)) .nil)))) .nil
def B_back : Ss := .cons (.ret (.tup (.cons (.idx (.var 0) (.cint 2)) (.cons (.idx (.var 0) (.cint 3)) .nil)))) .nil
def B_least_trip : Ss := .cons (.ret (.bin .add (.idx (.var 0) (.cint 0)) (.idx (.var 0) (.cint 2)))) .nil
def B_most_trip : Ss := .cons (.ret (.bin .add (.idx (.var 0) (.cint 1)) (.idx (.var 0) (.cint 3)))) .nil
def B_width : Ss := .cons (.ret (.bin .sub (.idx (.var 0) (.cint 1)) (.idx (.var 0) (.cint 0)))) .nil
def B_fl : Ss := .cons (.ret (.bin .add (.idx (.var 0) (.cint 3)) (.prim .max (.cons (.idx (.var 0) (.cint 2)) (.cons (.bin .mul (.cint 2) (.idx (.var 0) (.cint 3))) .nil))))) .nil
def B_pat (up mo ti lt : Nat) : Ss := .cons (.ret (.call up (.cons (.call mo (.cons (.tup (.cons (.idx (.var 0) (.cint 2)) (.cons (.cint 1) .nil))) (.cons (.call ti (.cons (.idx (.var 0) (.cint 1)) (.cons (.tup (.cons (.call lt (.cons (.var 1) .nil)) (.cons (.cint 1) .nil))) .nil))) .nil))) .nil))) .nil
def B_timed (wd pa mt : Nat) : Ss := .cons (.ret (.or (.cons (.cmp .eq (.idx (.var 0) (.cint 8)) (.cint 1)) (.cons (.cmp .le (.call wd (.cons (.var 1) .nil)) (.idx (.var 0) (.cint 5))) (.cons (.cmp .ge (.call pa (.cons (.var 0) (.cons (.var 1) .nil))) (.call mt (.cons (.var 1) .nil))) .nil))))) .nil
def B_pause (lt : Nat) : Ss := .cons (.ret (.prim .max (.cons (.bin .add (.call lt (.cons (.var 1) .nil)) (.idx (.var 0) (.cint 12))) (.cons (.idx (.var 0) (.cint 5)) .nil)))) .nil

theorem cl_bk (n : Nat) (b : Bk) : clD n (bkD b) = true := rfl
theorem cl_rd (n : Nat) (r : Rd) : clD n (rdD r) = true := rfl
def LtOk (P : Prg) (f : Nat) : Prop := ∀ (n : Nat) (r : Rd) (S : Store), callN P (n + 1) f [rdD r] S = .ok (.int r.L) S
theorem ltOk {P : Prg} {f : Nat} (h0 : P f = some ⟨1, 1, B_least_trip, true⟩) : LtOk P f := by
  intro n r S
  rw [callN_eq n _ _ h0 rfl (Nat.le_of_ble_eq_true rfl)]
  refine end_pure (env := [some (rdD r)]) ?_ rfl rfl
  show exSs (callN P n) B_least_trip [some (rdD r)] S = _
  unfold B_least_trip
  walk_at "ev"
def MtOk (P : Prg) (f : Nat) : Prop := ∀ (n : Nat) (r : Rd) (S : Store), callN P (n + 1) f [rdD r] S = .ok (.int r.T) S
theorem mtOk {P : Prg} {f : Nat} (h0 : P f = some ⟨1, 1, B_most_trip, true⟩) : MtOk P f := by
  intro n r S
  rw [callN_eq n _ _ h0 rfl (Nat.le_of_ble_eq_true rfl)]
  refine end_pure (env := [some (rdD r)]) ?_ rfl rfl
  show exSs (callN P n) B_most_trip [some (rdD r)] S = _
  unfold B_most_trip
  walk_at "ev"
def WdOk (P : Prg) (f : Nat) : Prop := ∀ (n : Nat) (r : Rd) (S : Store), callN P (n + 1) f [rdD r] S = .ok (.int r.W) S
theorem wdOk {P : Prg} {f : Nat} (h0 : P f = some ⟨1, 1, B_width, true⟩) : WdOk P f := by
  intro n r S
  rw [callN_eq n _ _ h0 rfl (Nat.le_of_ble_eq_true rfl)]
  refine end_pure (env := [some (rdD r)]) ?_ rfl rfl
  show exSs (callN P n) B_width [some (rdD r)] S = _
  unfold B_width
  walk_at "ev"
def FoOk (P : Prg) (f : Nat) : Prop := ∀ (n : Nat) (r : Rd) (S : Store), callN P (n + 1) f [rdD r] S = .ok (.tup [.int r.lo, .int r.hi]) S
theorem foOk {P : Prg} {f : Nat} (h0 : P f = some ⟨1, 1, B_forth, true⟩) : FoOk P f := by
  intro n r S
  rw [callN_eq n _ _ h0 rfl (Nat.le_of_ble_eq_true rfl)]
  refine end_pure (env := [some (rdD r)]) ?_ rfl rfl
  show exSs (callN P n) B_forth [some (rdD r)] S = _
  unfold B_forth
  walk_at "ev"
def BaOk (P : Prg) (f : Nat) : Prop := ∀ (n : Nat) (r : Rd) (S : Store), callN P (n + 1) f [rdD r] S = .ok (.tup [.int r.low, .int r.high]) S
theorem baOk {P : Prg} {f : Nat} (h0 : P f = some ⟨1, 1, B_back, true⟩) : BaOk P f := by
  intro n r S
  rw [callN_eq n _ _ h0 rfl (Nat.le_of_ble_eq_true rfl)]
  refine end_pure (env := [some (rdD r)]) ?_ rfl rfl
  show exSs (callN P n) B_back [some (rdD r)] S = _
  unfold B_back
  walk_at "ev"
theorem cdiv_sm {p : Fr} {i : Int} (hp : Sm p) : CDivW i p.2 := by
  have h1 := hp.pos
  have h2 := hp.d
  exact wide_div (b := 3000) h1 h2 (by decide) (by decide)
def UpOk (P : Prg) (f : Nat) : Prop := ∀ (n : Nat) (p : Fr) (S : Store), Sm p → callN P (n + 1) f [frD p] S = .ok (.int (upF p)) S
theorem upOk {P : Prg} {f : Nat} (h0 : P f = some ⟨1, 1, B_up, true⟩) : UpOk P f := by
  intro n p S hp
  rw [callN_eq n _ _ h0 rfl (Nat.le_of_ble_eq_true rfl)]
  refine end_pure (env := [some (frD p)]) ?_ rfl rfl
  show exSs (callN P n) B_up [some (frD p)] S = _
  unfold B_up frD upF
  have c := cdiv_sm (i := -p.1) hp
  walk_at "ev*"
def FlOk (P : Prg) (f : Nat) : Prop := ∀ (n : Nat) (b : Bk) (S : Store), callN P (n + 1) f [bkD b] S = .ok (.int (b.fi + max b.gr (2 * b.fi))) S
theorem flOk {P : Prg} {f : Nat} (h0 : P f = some ⟨1, 1, B_fl, true⟩) : FlOk P f := by
  intro n b S
  rw [callN_eq n _ _ h0 rfl (Nat.le_of_ble_eq_true rfl)]
  refine end_pure (env := [some (bkD b)]) ?_ rfl rfl
  show exSs (callN P n) B_fl [some (bkD b)] S = _
  unfold B_fl
  walk_at "ev"
def patF (b : Bk) (L : Int) : Int := upF (moreF (b.gr, 1) (timesF b.th (L, 1)))
theorem sm_int {a : Int} (h : a.natAbs < 2 ^ 64) : Sm (a, 1) := sm_of h (by decide) (by decide)
theorem pat_sm {b : Bk} (hb : BkOk b) {L : Int} (h0 : 0 ≤ L) (h1 : L < 100000) : Sm (b.gr, 1) ∧ Sm (timesF b.th (L, 1)) ∧ Sm (moreF (b.gr, 1) (timesF b.th (L, 1))) := by
  have a : Sm (b.gr, 1) := sm_int (by have := hb.gr; omega)
  have c := hb.th.times h0 h1
  exact ⟨a, c, sm_more a c⟩
def PaOk (P : Prg) (f : Nat) : Prop := ∀ (n : Nat) (b : Bk) (r : Rd) (S : Store), BkOk b → RdOk r → callN P (n + 5) f [bkD b, rdD r] S = .ok (.int (patF b r.L)) S
theorem paOk {P : Prg} {f up mo ti lt : Nat} (h0 : P f = some ⟨2, 2, B_pat up mo ti lt, true⟩) (hu : UpOk P up) (hm : MoreOk P mo) (ht : TimesOk P ti) (hl : LtOk P lt) : PaOk P f := by
  intro n b r S hb hr
  rw [callN_eq (n + 4) _ _ h0 rfl (Nat.le_of_ble_eq_true rfl)]
  refine end_pure (env := [some (bkD b), some (rdD r)]) ?_ rfl rfl
  show exSs (callN P (n + 4)) (B_pat up mo ti lt) [some (bkD b), some (rdD r)] S = _
  unfold B_pat patF
  have h1 := hr.lo; have h2 := hr.low; have h3 := hr.hi; have h4 := hr.high
  obtain ⟨s1, s2, s3⟩ := pat_sm hb (L := r.L) (by show 0 ≤ r.lo + r.low; omega) (by show r.lo + r.low < 100000; omega)
  have s4 : Sm (r.L, 1) := sm_int (by show (r.lo + r.low).natAbs < 2 ^ 64; omega)
  have x1 : callN P (n + 4) lt [rdD r] S = .ok (.int r.L) S := hl (n + 3) r S
  have x2 : callN P (n + 4) ti [frD b.th, .tup [.int r.L, .int 1]] S = .ok (frD (timesF b.th (r.L, 1))) S := ht (n + 1) b.th (r.L, 1) S hb.th.sm s4
  have x3 : callN P (n + 4) mo [.tup [.int b.gr, .int 1], frD (timesF b.th (r.L, 1))] S = .ok (frD (moreF (b.gr, 1) (timesF b.th (r.L, 1)))) S := hm (n + 2) (b.gr, 1) _ S s1 s2
  have x4 : callN P (n + 4) up [frD (moreF (b.gr, 1) (timesF b.th (r.L, 1)))] S = .ok (.int (upF (moreF (b.gr, 1) (timesF b.th (r.L, 1))))) S := hu (n + 3) _ S s3
  generalize r.L = L at *
  clear s1 s2 s3 s4 h1 h2 h3 h4
  walk_at "ev*"
def timedF (b : Bk) (r : Rd) : Bool := decide (b.mo = 1) || decide (r.W ≤ b.ga) || decide (r.T ≤ patF b r.L)
def TdOk (P : Prg) (f : Nat) : Prop := ∀ (n : Nat) (b : Bk) (r : Rd) (S : Store), BkOk b → RdOk r → callN P (n + 6) f [bkD b, rdD r] S = .ok (.bl (timedF b r)) S
theorem tdOk {P : Prg} {f wd pa mt : Nat} (h0 : P f = some ⟨2, 2, B_timed wd pa mt, true⟩) (hw : WdOk P wd) (hp : PaOk P pa) (hm : MtOk P mt) : TdOk P f := by
  intro n b r S hb hr
  rw [callN_eq (n + 5) _ _ h0 rfl (Nat.le_of_ble_eq_true rfl)]
  refine end_pure (env := [some (bkD b), some (rdD r)]) ?_ rfl rfl
  show exSs (callN P (n + 5)) (B_timed wd pa mt) [some (bkD b), some (rdD r)] S = _
  unfold B_timed timedF
  have x1 : callN P (n + 5) wd [rdD r] S = .ok (.int r.W) S := hw (n + 4) r S
  have x2 : callN P (n + 5) mt [rdD r] S = .ok (.int r.T) S := hm (n + 4) r S
  have x3 : callN P (n + 5) pa [bkD b, rdD r] S = .ok (.int (patF b r.L)) S := hp n b r S hb hr
  generalize patF b r.L = p at *
  generalize r.T = t at *
  generalize r.W = w at *
  by_cases c1 : b.mo = 1
  · rw [decide_eq_true c1]
    walk_at "ev*"
    rfl
  · rw [decide_eq_false c1]
    by_cases c2 : w ≤ b.ga
    · rw [decide_eq_true c2]
      walk_at "ev*"
      rfl
    · rw [decide_eq_false c2]
      have c3 : (decide (b.mo = 1)) = false := decide_eq_false c1
      have c4 : (decide (w ≤ b.ga)) = false := decide_eq_false c2
      clear c1 c2
      walk_at "ev*"
      rfl
def pauseF (b : Bk) (r : Rd) : Int := max (r.L + b.wa) b.ga
def PuOk (P : Prg) (f : Nat) : Prop := ∀ (n : Nat) (b : Bk) (r : Rd) (S : Store), callN P (n + 2) f [bkD b, rdD r] S = .ok (.int (pauseF b r)) S
theorem puOk {P : Prg} {f lt : Nat} (h0 : P f = some ⟨2, 2, B_pause lt, true⟩) (hl : LtOk P lt) : PuOk P f := by
  intro n b r S
  rw [callN_eq (n + 1) _ _ h0 rfl (Nat.le_of_ble_eq_true rfl)]
  refine end_pure (env := [some (bkD b), some (rdD r)]) ?_ rfl rfl
  show exSs (callN P (n + 1)) (B_pause lt) [some (bkD b), some (rdD r)] S = _
  unfold B_pause pauseF
  have x1 : callN P (n + 1) lt [rdD r] S = .ok (.int r.L) S := hl n r S
  generalize r.L = L at *
  walk_at "ev*"
end
end SX
namespace SX
open PySem PySem.Spec PyProof.Rows L2
noncomputable section
open Classical
local macro_rules | `(tactic| walk_at "ev") => `(tactic| simp (config := { maxSteps := 3000000 }) (disch := first | assumption | omega | exact ⟨by omega, by omega⟩ | exact ⟨⟨by omega, by omega⟩, ⟨by omega, by omega⟩⟩ | exact Nat.le_of_ble_eq_true rfl | decide) only [bk0, bk1, bk2, bk3, bk4, bk5, bk6, bk7, bk8, bk9, bk10, bk11, bk12, rd0, rd1, rd2, rd3, bnd_ok, bnd_bad, binJ_eq, binK_eq, notK_eq, cmpJ_eq, cmpK_eq, idxJ_eq, idxK_eq, calJ_eq, clkJ_eq, clkK_eq, priJ_eq, isiJ_eq, metJ_eq, metI_t, metK_eq, lcJ_eq, lcK_eq, conJ_eq, conK_eq, andJ_eq, orJ_eq, rg2J_eq, nxtK_eq, setI1_eq, setI2_eq, setI3_eq, retK_eq,  vE_var, varK_ok, vE_int, vE_bl, vE_non, vE_str, vE_tup, vE_lst, vE_bin, vE_neg, vE_not, vE_and, vE_or, vE_cmp, vE_ite, brE_t, brE_f, vE_idx, vE_slc, vE_call, vE_callk, vE_prim, vE_isin, vE_meth, vE_lc, vE_gcon, toD_int, toD_strs, vE_chain, chnI_eq, chnK_eq, chnJ_t, chnJ_f, vE_tupG, tgJ_eq, tgK_eq, vE_qual, qlK_eq, vE_sumG, smK_eq, vE_lc2, l2K_eq, vEs_nil, vEs_cons, vA_one, vA_cons, vO_one, vO_cons, andK_t, andK_f, orK_t, orK_f, vT_nil, vT_cons, vI_seq, seqK_tup, seqK_rls, seqK_loc, seqL_ok, vI_range1, rg1_int, vI_range2, rg2_int,
  xS_asg, asgK_nm, asgT_nm, asgT_tp2, asgT_tp3, asgK_tp2, asgK_tp3, xS_par, parK_2, parK_3, xS_setS, xS_aug, augV_ok, augK_add, augK_sub, xS_augS, agR_some, agD_eq, agX_eq, agI_eq, agO_eq, idxM_loc, augD_add, augD_sub, xS_expr, xS_ret, xS_retN, xS_ite, brS_t, brS_f, xS_wh, whB_t, whB_f, whK_n, whK_c, whK_b, whK_r, xS_fo, foT_some, foK_n, foK_c, foK_b, foK_r, xS_brk, xS_cont, xS_pass, xSs_nil, xSs_cons, sqK_n, sqK_r, sqK_b, sqK_c,
  b_add, b_sub, b_mul, b_mulL, b_mulR, b_fdiv, b_mod, b_pow, b_addT, b_addL, addL_ok, b_repT, k_lt, k_le, k_gt, k_ge, k_eq, k_ne, k_isN, k_notN, k_in, k_nin, tr_str, q_int, q_bl, q_str, ofB_some, Option.map_some, tr_bl, tr_int, tr_non, tr_tup, tr_loc, trK_ok, td_bl, td_int, td_tup, i_tup, i_rls, i_loc, idxL_ok, okV_some, at0, at1, at2, at3, at_m1, tupK_ok, lstK_ok, negK_int, p_abs, p_int, p_intB, p_lenT, p_lenR, p_lenL, lenL_ok, p_max, p_min, p_tupT, p_tupL, tupL_ok, p_lstT, p_lstL, lstL_ok, isD_ok, m_app, appL_ok, m_pop, popL_ok, m_rev, revL_ok, recv_ok, recvL_ok, set_loc, setL_ok, setI_ok, new_eq, Bool.not_true, Bool.not_false, if_true, eq_self, decide_true, decide_false,
  List.set_cons_zero, List.set_cons_succ, List.getElem?_cons_zero, List.getElem?_cons_succ, List.length_cons, List.length_nil, Option.some.injEq])
local macro_rules | `(tactic| walk_at "ev*") => `(tactic| simp (config := { maxSteps := 3000000 }) (disch := first | assumption | omega | exact ⟨by omega, by omega⟩ | exact ⟨⟨by omega, by omega⟩, ⟨by omega, by omega⟩⟩ | exact Nat.le_of_ble_eq_true rfl | decide) only [bk0, bk1, bk2, bk3, bk4, bk5, bk6, bk7, bk8, bk9, bk10, bk11, bk12, rd0, rd1, rd2, rd3, bnd_ok, bnd_bad, binJ_eq, binK_eq, notK_eq, cmpJ_eq, cmpK_eq, idxJ_eq, idxK_eq, calJ_eq, clkJ_eq, clkK_eq, priJ_eq, isiJ_eq, metJ_eq, metI_t, metK_eq, lcJ_eq, lcK_eq, conJ_eq, conK_eq, andJ_eq, orJ_eq, rg2J_eq, nxtK_eq, setI1_eq, setI2_eq, setI3_eq, retK_eq,  vE_var, varK_ok, vE_int, vE_bl, vE_non, vE_str, vE_tup, vE_lst, vE_bin, vE_neg, vE_not, vE_and, vE_or, vE_cmp, vE_ite, brE_t, brE_f, vE_idx, vE_slc, vE_call, vE_callk, vE_prim, vE_isin, vE_meth, vE_lc, vE_gcon, toD_int, toD_strs, vE_chain, chnI_eq, chnK_eq, chnJ_t, chnJ_f, vE_tupG, tgJ_eq, tgK_eq, vE_qual, qlK_eq, vE_sumG, smK_eq, vE_lc2, l2K_eq, vEs_nil, vEs_cons, vA_one, vA_cons, vO_one, vO_cons, andK_t, andK_f, orK_t, orK_f, vT_nil, vT_cons, vI_seq, seqK_tup, seqK_rls, seqK_loc, seqL_ok, vI_range1, rg1_int, vI_range2, rg2_int,
  xS_asg, asgK_nm, asgT_nm, asgT_tp2, asgT_tp3, asgK_tp2, asgK_tp3, xS_par, parK_2, parK_3, xS_setS, xS_aug, augV_ok, augK_add, augK_sub, xS_augS, agR_some, agD_eq, agX_eq, agI_eq, agO_eq, idxM_loc, augD_add, augD_sub, xS_expr, xS_ret, xS_retN, xS_ite, brS_t, brS_f, xS_wh, whB_t, whB_f, whK_n, whK_c, whK_b, whK_r, xS_fo, foT_some, foK_n, foK_c, foK_b, foK_r, xS_brk, xS_cont, xS_pass, xSs_nil, xSs_cons, sqK_n, sqK_r, sqK_b, sqK_c,
  b_add, b_sub, b_mul, b_mulL, b_mulR, b_fdiv, b_mod, b_pow, b_addT, b_addL, addL_ok, b_repT, k_lt, k_le, k_gt, k_ge, k_eq, k_ne, k_isN, k_notN, k_in, k_nin, tr_str, q_int, q_bl, q_str, ofB_some, Option.map_some, tr_bl, tr_int, tr_non, tr_tup, tr_loc, trK_ok, td_bl, td_int, td_tup, i_tup, i_rls, i_loc, idxL_ok, okV_some, at0, at1, at2, at3, at_m1, tupK_ok, lstK_ok, negK_int, p_abs, p_int, p_intB, p_lenT, p_lenR, p_lenL, lenL_ok, p_max, p_min, p_tupT, p_tupL, tupL_ok, p_lstT, p_lstL, lstL_ok, isD_ok, m_app, appL_ok, m_pop, popL_ok, m_rev, revL_ok, recv_ok, recvL_ok, set_loc, setL_ok, setI_ok, new_eq, Bool.not_true, Bool.not_false, if_true, eq_self, decide_true, decide_false,
  List.set_cons_zero, List.set_cons_succ, List.getElem?_cons_zero, List.getElem?_cons_succ, List.length_cons, List.length_nil, Option.some.injEq, *])
local macro_rules | `(tactic| walk_at "evs") => `(tactic| simp (config := { maxSteps := 3000000 }) (disch := first | assumption | omega | exact ⟨by omega, by omega⟩ | exact ⟨⟨by omega, by omega⟩, ⟨by omega, by omega⟩⟩ | exact Nat.le_of_ble_eq_true rfl | decide) only [bk0, bk1, bk2, bk3, bk4, bk5, bk6, bk7, bk8, bk9, bk10, bk11, bk12, rd0, rd1, rd2, rd3, bnd_ok, bnd_bad, binJ_eq, binK_eq, notK_eq, cmpJ_eq, cmpK_eq, idxJ_eq, idxK_eq, calJ_eq, clkJ_eq, clkK_eq, priJ_eq, isiJ_eq, metJ_eq, metI_t, metK_eq, lcJ_eq, lcK_eq, conJ_eq, conK_eq, andJ_eq, orJ_eq, rg2J_eq, nxtK_eq, setI1_eq, setI2_eq, setI3_eq, retK_eq,  vE_var, varK_ok, vE_int, vE_bl, vE_non, vE_str, vE_tup, vE_lst, vE_bin, vE_neg, vE_not, vE_and, vE_or, vE_cmp, vE_ite, brE_t, brE_f, vE_idx, vE_slc, vE_call, vE_callk, vE_prim, vE_isin, vE_meth, vE_lc, vE_gcon, toD_int, toD_strs, vE_chain, chnI_eq, chnK_eq, chnJ_t, chnJ_f, vE_tupG, tgJ_eq, tgK_eq, vE_qual, qlK_eq, vE_sumG, smK_eq, vE_lc2, l2K_eq, vEs_nil, vEs_cons, vA_one, vA_cons, vO_one, vO_cons, andK_t, andK_f, orK_t, orK_f, vT_nil, vT_cons, vI_seq, seqK_tup, seqK_rls, seqK_loc, seqL_ok, vI_range1, rg1_int, vI_range2, rg2_int,
  xS_asg, asgK_nm, asgT_nm, asgT_tp2, asgT_tp3, asgK_tp2, asgK_tp3, xS_par, parK_2, parK_3, xS_setS, xS_aug, augV_ok, augK_add, augK_sub, xS_augS, agR_some, agD_eq, agX_eq, agI_eq, agO_eq, idxM_loc, augD_add, augD_sub, xS_expr, xS_ret, xS_retN, xS_ite, brS_t, brS_f, xS_wh, whB_t, whB_f, whK_n, whK_c, whK_b, whK_r, xS_fo, foT_some, foK_n, foK_c, foK_b, foK_r, xS_brk, xS_cont, xS_pass, xSs_nil, xSs_cons, sqK_n, sqK_r, sqK_b, sqK_c,
  b_add, b_sub, b_mul, b_mulL, b_mulR, b_fdiv, b_mod, b_pow, b_addT, b_addL, addL_ok, b_repT, k_lt, k_le, k_gt, k_ge, k_eq, k_ne, k_isN, k_notN, k_in, k_nin, tr_str, q_int, q_bl, q_str, ofB_some, Option.map_some, tr_bl, tr_int, tr_non, tr_tup, tr_loc, trK_ok, td_bl, td_int, td_tup, i_tup, i_rls, i_loc, idxL_ok, okV_some, at0, at1, at2, at3, at_m1, tupK_ok, lstK_ok, negK_int, p_abs, p_int, p_intB, p_lenT, p_lenR, p_lenL, lenL_ok, p_max, p_min, p_tupT, p_tupL, tupL_ok, p_lstT, p_lstL, lstL_ok, isD_ok, m_app, appL_ok, m_pop, popL_ok, m_rev, revL_ok, recv_ok, recvL_ok, set_loc, setL_ok, setI_ok, new_eq, Bool.not_true, Bool.not_false, if_true, eq_self, decide_true, decide_false,
  List.set_cons_zero, List.set_cons_succ, List.getElem?_cons_zero, List.getElem?_cons_succ, List.length_cons, List.length_nil, Option.some.injEq, List.cons_append, List.nil_append, List.append_assoc, Nat.reduceAdd, st_get, st_get0, st_set, st_set0, List.length_append, Nat.add_zero, Nat.zero_add, *])

/-! ### how soon sendings may follow one another -/
def nxtF (ga mo tr : Int) (L : List Int) (j : Int) : Int := if j > mo - 1 then max (L.getD (j - 1).toNat 0 + ga) (L.getD (j - mo + 1).toNat 0 + tr) else L.getD (j - 1).toNat 0 + ga
def sprN (ga mo tr : Int) : Nat → List Int
  | 0 => [0]
  | n + 1 => sprN ga mo tr n ++ [nxtF ga mo tr (sprN ga mo tr n) ((n : Int) + 1)]
def sprL (ga mo tr : Int) (n : Nat) : List Int := if mo > 1 then sprN ga mo tr n else [0]
theorem spr_len (ga mo tr : Int) : ∀ n, (sprN ga mo tr n).length = n + 1
  | 0 => rfl
  | n + 1 => by rw [sprN, List.length_append, spr_len ga mo tr n]; rfl
theorem atI_getD {L : List Int} {i : Int} (h0 : 0 ≤ i) (h1 : i.toNat < L.length) : atI (L.map D.int) i = some (.int (L.getD i.toNat 0)) := by
  rw [at_nat h0 (by rw [List.length_map]; exact h1), List.getElem_map, List.getD_eq_getElem?_getD, List.getElem?_eq_getElem h1]
  rfl
def lastI (L : List Int) : Int := L.getD (L.length - 1) 0
theorem atI_lastI {L : List Int} (h : L ≠ []) : atI (L.map D.int) (-1) = some (.int (lastI L)) := by
  obtain ⟨pre, x, rfl⟩ : ∃ pre x, L = pre ++ [x] := ⟨L.dropLast, L.getLast h, (List.dropLast_concat_getLast h).symm⟩
  rw [List.map_append, List.map_cons, List.map_nil, at_m1]
  unfold lastI
  simp
theorem sprL_ne (ga mo tr : Int) (n : Nat) : sprL ga mo tr n ≠ [] := by
  unfold sprL
  split
  · intro z
    have := congrArg List.length z
    rw [spr_len] at this
    simp at this
  · simp
def B_spreads (lt : Nat) : Ss := .cons (.par [3, 4] (.cons (.idx (.var 0) (.cint 5)) (.cons (.idx (.var 0) (.cint 8)) .nil))) (.cons (.asg (.nm 5) (.lst (.cons (.cint 0) .nil))) (.cons (.ite (.cmp .gt (.var 4) (.cint 1)) (.cons (.fo (.nm 6) (.range2 (.cint 1) (.bin .add (.var 2) (.cint 1))) (.cons (.asg (.nm 7) (.bin .add (.idx (.var 5) (.bin .sub (.var 6) (.cint 1))) (.var 3))) (.cons (.ite (.cmp .gt (.var 6) (.bin .sub (.var 4) (.cint 1))) (.cons (.asg (.nm 7) (.prim .max (.cons (.var 7) (.cons (.bin .add (.idx (.var 5) (.bin .add (.bin .sub (.var 6) (.var 4)) (.cint 1))) (.call lt (.cons (.var 1) .nil))) .nil)))) .nil) .nil) (.cons (.expr (.meth .append (.var 5) (.cons (.var 7) .nil))) .nil)))) .nil) .nil) (.cons (.ret (.prim .tuple (.cons (.var 5) .nil))) .nil)))
def spB (lt : Nat) : Ss := .cons (.asg (.nm 7) (.bin .add (.idx (.var 5) (.bin .sub (.var 6) (.cint 1))) (.var 3))) (.cons (.ite (.cmp .gt (.var 6) (.bin .sub (.var 4) (.cint 1))) (.cons (.asg (.nm 7) (.prim .max (.cons (.var 7) (.cons (.bin .add (.idx (.var 5) (.bin .add (.bin .sub (.var 6) (.var 4)) (.cint 1))) (.call lt (.cons (.var 1) .nil))) .nil)))) .nil) .nil) (.cons (.expr (.meth .append (.var 5) (.cons (.var 7) .nil))) .nil))
def lsB : Ss := .cons (.asg (.nm 5) (.bin .add (.idx (.var 3) (.bin .sub (.var 4) (.cint 1))) (.idx (.var 0) (.cint 5)))) (.cons (.ite (.cmp .gt (.var 4) (.bin .sub (.idx (.var 0) (.cint 8)) (.cint 1))) (.cons (.asg (.nm 5) (.prim .max (.cons (.var 5) (.cons (.bin .add (.bin .add (.idx (.var 3) (.bin .add (.bin .sub (.var 4) (.idx (.var 0) (.cint 8))) (.cint 1))) (.idx (.var 1) (.cint 0))) (.idx (.var 1) (.cint 2))) .nil)))) .nil) .nil) (.cons (.expr (.meth .append (.var 3) (.cons (.var 5) .nil))) .nil))
def B_ls : Ss := .cons (.asg (.nm 3) (.lst (.cons (.cint 0) .nil))) (.cons (.fo (.nm 4) (.range2 (.cint 1) (.ite (.cmp .gt (.idx (.var 0) (.cint 8)) (.cint 1)) (.bin .add (.var 2) (.cint 1)) (.cint 1))) (.cons (.asg (.nm 5) (.bin .add (.idx (.var 3) (.bin .sub (.var 4) (.cint 1))) (.idx (.var 0) (.cint 5)))) (.cons (.ite (.cmp .gt (.var 4) (.bin .sub (.idx (.var 0) (.cint 8)) (.cint 1))) (.cons (.asg (.nm 5) (.prim .max (.cons (.var 5) (.cons (.bin .add (.bin .add (.idx (.var 3) (.bin .add (.bin .sub (.var 4) (.idx (.var 0) (.cint 8))) (.cint 1))) (.idx (.var 1) (.cint 0))) (.idx (.var 1) (.cint 2))) .nil)))) .nil) .nil) (.cons (.expr (.meth .append (.var 3) (.cons (.var 5) .nil))) .nil)))) (.cons (.ret (.prim .tuple (.cons (.var 3) .nil))) .nil))

theorem sp_eq (lt : Nat) : B_spreads lt = .cons (.par [3, 4] (.cons (.idx (.var 0) (.cint 5)) (.cons (.idx (.var 0) (.cint 8)) .nil))) (.cons (.asg (.nm 5) (.lst (.cons (.cint 0) .nil))) (.cons (.ite (.cmp .gt (.var 4) (.cint 1)) (.cons (.fo (.nm 6) (.range2 (.cint 1) (.bin .add (.var 2) (.cint 1))) (spB lt)) .nil) .nil) (.cons (.ret (.prim .tuple (.cons (.var 5) .nil))) .nil))) := rfl
theorem ls_eq : B_ls = .cons (.asg (.nm 3) (.lst (.cons (.cint 0) .nil))) (.cons (.fo (.nm 4) (.range2 (.cint 1) (.ite (.cmp .gt (.idx (.var 0) (.cint 8)) (.cint 1)) (.bin .add (.var 2) (.cint 1)) (.cint 1))) lsB) (.cons (.ret (.prim .tuple (.cons (.var 3) .nil))) .nil)) := rfl
theorem sp_turn {P : Prg} {lt : Nat} (hl : LtOk P lt) (n : Nat) (S : Store) (b : Bk) (r : Rd) (mn ga mo j : Int) (L : List Int) (hL : (L.length : Int) = j) (hj : 1 ≤ j) (hm : 2 ≤ mo) (h3 : L.length < 100000) (o7 : Option D) :
    ∃ o7', exSs (callN P (n + 1)) (spB lt) [some (bkD b), some (rdD r), some (.int mn), some (.int ga), some (.int mo), some (.loc S.length), some (.int j), o7] (S ++ [.lst (L.map .int)])
      = .ok (.next, [some (bkD b), some (rdD r), some (.int mn), some (.int ga), some (.int mo), some (.loc S.length), some (.int j), o7']) (S ++ [.lst ((L ++ [nxtF ga mo r.L L j]).map .int)]) := by
  unfold spB nxtF
  have x1 : ∀ S1, callN P (n + 1) lt [rdD r] S1 = .ok (.int r.L) S1 := fun S1 => hl n r S1
  have a1 : atI (L.map D.int) (j - 1) = some (.int (L.getD (j - 1).toNat 0)) := atI_getD (by omega) (by omega)
  have L0 : LINE = 16777216 := rfl
  have hl1 : (L.map D.int).length < LINE := by rw [List.length_map]; omega
  have hx : (S ++ [SO.lst (L.map D.int)])[S.length]? = some (.lst (L.map .int)) := by rw [st_get0]; rfl
  have hs : ∀ v : D, (S ++ [SO.lst (L.map D.int)]).set S.length (.lst (L.map .int ++ [v])) = S ++ [SO.lst (L.map .int ++ [v])] := fun v => by rw [st_set0]; rfl
  generalize r.L = tr at *
  by_cases hc : mo - 1 < j
  · have a2 : atI (L.map D.int) (j - mo + 1) = some (.int (L.getD (j - mo + 1).toNat 0)) := atI_getD (by omega) (by omega)
    have hc2 : (decide (mo - 1 < j)) = true := decide_eq_true hc
    refine ⟨some (.int (max (L.getD (j - 1).toNat 0 + ga) (L.getD (j - mo + 1).toNat 0 + tr))), ?_⟩
    rw [if_pos hc, List.map_append, List.map_cons, List.map_nil]
    generalize L.map D.int = LD at *
    clear hc hL hj hm h3
    walk_at "ev*"
  · have hc2 : (decide (mo - 1 < j)) = false := decide_eq_false hc
    refine ⟨some (.int (L.getD (j - 1).toNat 0 + ga)), ?_⟩
    rw [if_neg hc, List.map_append, List.map_cons, List.map_nil]
    generalize L.map D.int = LD at *
    clear hc hL hj hm h3
    walk_at "ev*"
theorem sp_loop {P : Prg} {lt : Nat} (hl : LtOk P lt) (n : Nat) (S : Store) (b : Bk) (r : Rd) (mn ga mo : Int) (hm : 2 ≤ mo) (w : Walk) (hw : ∀ s, w.here s) : ∀ (k j : Nat) (o6 o7 : Option D), j + k < 100000 →
    ∃ o6' o7', foS (callN P (n + 1)) (.nm 6) (spB lt) w (rngK ((j : Int) + 1) ((j + k : Nat) + 1)) [some (bkD b), some (rdD r), some (.int mn), some (.int ga), some (.int mo), some (.loc S.length), o6, o7] (S ++ [.lst ((sprN ga mo r.L j).map .int)])
      = .ok (.next, [some (bkD b), some (rdD r), some (.int mn), some (.int ga), some (.int mo), some (.loc S.length), o6', o7']) (S ++ [.lst ((sprN ga mo r.L (j + k)).map .int)])
  | 0, j, o6, o7, _ => ⟨o6, o7, by rw [rng_nil (by omega), fo_nil _ _ _ _ _ _ (hw _)]; rfl⟩
  | k + 1, j, o6, o7, hk => by
    obtain ⟨o7a, e⟩ := sp_turn hl n S b r mn ga mo ((j : Int) + 1) (sprN ga mo r.L j) (by rw [spr_len]; omega) (by omega) hm (by rw [spr_len]; omega) o7
    obtain ⟨o6b, o7b, e2⟩ := sp_loop hl n S b r mn ga mo hm w hw k (j + 1) (some (.int ((j : Int) + 1))) o7a (by omega)
    refine ⟨o6b, o7b, ?_⟩
    rw [rng_cons (by omega), fo_cons _ _ _ _ _ _ _ _ (hw _), asgT_nm, foT_some]
    simp only [List.set_cons_zero, List.set_cons_succ]
    rw [e, bnd_ok, foK_n]
    have h1 : sprN ga mo r.L j ++ [nxtF ga mo r.L (sprN ga mo r.L j) ((j : Int) + 1)] = sprN ga mo r.L (j + 1) := by rw [sprN]
    have h2 : (j : Int) + 1 + 1 = ((j + 1 : Nat) : Int) + 1 := by omega
    have h3 : j + (k + 1) = j + 1 + k := by omega
    rw [h1, h2, h3]
    exact e2
theorem clD_ints (n : Nat) (L : List Int) : clD n (.tup (L.map .int)) = true := clDs_ints n L
def SpOk (P : Prg) (f : Nat) : Prop := ∀ (n : Nat) (b : Bk) (r : Rd) (m : Nat) (S : Store), m ≤ 10000 → callN P (n + 2) f [bkD b, rdD r, .int (m : Int)] S = .ok (.tup ((sprL b.ga b.mo r.L m).map .int)) S
theorem spOk {P : Prg} {f lt : Nat} (h0 : P f = some ⟨3, 8, B_spreads lt, true⟩) (hl : LtOk P lt) : SpOk P f := by
  intro n b r m S hm
  rw [callN_eq (n + 1) _ _ h0 rfl (Nat.le_of_ble_eq_true rfl)]
  have r62 : R62 1 ∧ R62 ((m : Int) + 1) := ⟨⟨by omega, by omega⟩, ⟨by omega, by omega⟩⟩
  have hx : (S ++ [SO.lst [D.int 0]])[S.length]? = some (.lst [.int 0]) := by rw [st_get0]; rfl
  have L0 : LINE = 16777216 := rfl
  by_cases hc : 1 < b.mo
  · have hs : sprL b.ga b.mo r.L m = sprN b.ga b.mo r.L m := by unfold sprL; rw [if_pos hc]
    obtain ⟨o6, o7, e⟩ := sp_loop hl n S b r m b.ga b.mo (by omega) ⟨rngK 1 ((m : Int) + 1), none⟩ (fun s => here_none s _) m 0 none none (by omega)
    refine end_app (env := [some (bkD b), some (rdD r), some (.int m), some (.int b.ga), some (.int b.mo), some (.loc S.length), o6, o7]) [.lst ((sprL b.ga b.mo r.L m).map .int)] ?_ rfl (clD_ints _ _)
    show exSs (callN P (n + 1)) (B_spreads lt) [some (bkD b), some (rdD r), some (.int m), none, none, none, none, none] S = _
    rw [sp_eq]
    have e' : foS (callN P (n + 1)) (.nm 6) (spB lt) ⟨rngK 1 ((m : Int) + 1), none⟩ (rngK 1 ((m : Int) + 1)) [some (bkD b), some (rdD r), some (.int m), some (.int b.ga), some (.int b.mo), some (.loc S.length), none, none] (S ++ [.lst [D.int 0]])
        = .ok (.next, [some (bkD b), some (rdD r), some (.int m), some (.int b.ga), some (.int b.mo), some (.loc S.length), o6, o7]) (S ++ [.lst ((sprL b.ga b.mo r.L m).map .int)]) := by
      rw [hs]
      have := e
      simp only [Nat.zero_add] at this
      exact this
    have hy : (S ++ [SO.lst ((sprL b.ga b.mo r.L m).map D.int)])[S.length]? = some (.lst ((sprL b.ga b.mo r.L m).map .int)) := by rw [st_get0]; rfl
    have hc2 : (decide (1 < b.mo)) = true := decide_eq_true hc
    generalize (sprL b.ga b.mo r.L m).map D.int = LD at *
    clear e hs hc hm
    walk_at "ev*"
  · have hs : sprL b.ga b.mo r.L m = [0] := by unfold sprL; rw [if_neg hc]
    rw [hs]
    refine end_app (env := [some (bkD b), some (rdD r), some (.int m), some (.int b.ga), some (.int b.mo), some (.loc S.length), none, none]) [.lst [.int 0]] ?_ rfl rfl
    show exSs (callN P (n + 1)) (B_spreads lt) [some (bkD b), some (rdD r), some (.int m), none, none, none, none, none] S = _
    rw [sp_eq]
    have hc2 : (decide (1 < b.mo)) = false := decide_eq_false hc
    clear hs hc hm
    walk_at "ev*"
    rfl
theorem ls_turn {P : Prg} (n : Nat) (S : Store) (b : Bk) (r : Rd) (mn j : Int) (L : List Int) (hL : (L.length : Int) = j) (hj : 1 ≤ j) (hm : 2 ≤ b.mo) (h3 : L.length < 100000) (o7 : Option D) :
    ∃ o7', exSs (callN P n) lsB [some (bkD b), some (rdD r), some (.int mn), some (.loc S.length), some (.int j), o7] (S ++ [.lst (L.map .int)])
      = .ok (.next, [some (bkD b), some (rdD r), some (.int mn), some (.loc S.length), some (.int j), o7']) (S ++ [.lst ((L ++ [nxtF b.ga b.mo r.L L j]).map .int)]) := by
  unfold lsB nxtF
  have a1 : atI (L.map D.int) (j - 1) = some (.int (L.getD (j - 1).toNat 0)) := atI_getD (by omega) (by omega)
  have L0 : LINE = 16777216 := rfl
  have hl1 : (L.map D.int).length < LINE := by rw [List.length_map]; omega
  have hx : (S ++ [SO.lst (L.map D.int)])[S.length]? = some (.lst (L.map .int)) := by rw [st_get0]; rfl
  have hs : ∀ v : D, (S ++ [SO.lst (L.map D.int)]).set S.length (.lst (L.map .int ++ [v])) = S ++ [SO.lst (L.map .int ++ [v])] := fun v => by rw [st_set0]; rfl
  by_cases hc : b.mo - 1 < j
  · have a2 : atI (L.map D.int) (j - b.mo + 1) = some (.int (L.getD (j - b.mo + 1).toNat 0)) := atI_getD (by omega) (by omega)
    have hc2 : (decide (b.mo - 1 < j)) = true := decide_eq_true hc
    refine ⟨some (.int (max (L.getD (j - 1).toNat 0 + b.ga) (L.getD (j - b.mo + 1).toNat 0 + r.L))), ?_⟩
    rw [if_pos hc, List.map_append, List.map_cons, List.map_nil]
    have as : ∀ x : Int, x + r.lo + r.low = x + r.L := fun x => by show x + r.lo + r.low = x + (r.lo + r.low); omega
    generalize r.L = tr at *
    generalize L.map D.int = LD at *
    clear hc hL hj hm h3
    walk_at "ev*"
  · have hc2 : (decide (b.mo - 1 < j)) = false := decide_eq_false hc
    refine ⟨some (.int (L.getD (j - 1).toNat 0 + b.ga)), ?_⟩
    rw [if_neg hc, List.map_append, List.map_cons, List.map_nil]
    generalize L.map D.int = LD at *
    clear hc hL hj hm h3
    walk_at "ev*"
theorem ls_loop {P : Prg} (n : Nat) (S : Store) (b : Bk) (r : Rd) (mn : Int) (hm : 2 ≤ b.mo) (w : Walk) (hw : ∀ s, w.here s) : ∀ (k j : Nat) (o6 o7 : Option D), j + k < 100000 →
    ∃ o6' o7', foS (callN P n) (.nm 4) lsB w (rngK ((j : Int) + 1) ((j + k : Nat) + 1)) [some (bkD b), some (rdD r), some (.int mn), some (.loc S.length), o6, o7] (S ++ [.lst ((sprN b.ga b.mo r.L j).map .int)])
      = .ok (.next, [some (bkD b), some (rdD r), some (.int mn), some (.loc S.length), o6', o7']) (S ++ [.lst ((sprN b.ga b.mo r.L (j + k)).map .int)])
  | 0, j, o6, o7, _ => ⟨o6, o7, by rw [rng_nil (by omega), fo_nil _ _ _ _ _ _ (hw _)]; rfl⟩
  | k + 1, j, o6, o7, hk => by
    obtain ⟨o7a, e⟩ := ls_turn (P := P) n S b r mn ((j : Int) + 1) (sprN b.ga b.mo r.L j) (by rw [spr_len]; omega) (by omega) hm (by rw [spr_len]; omega) o7
    obtain ⟨o6b, o7b, e2⟩ := ls_loop (P := P) n S b r mn hm w hw k (j + 1) (some (.int ((j : Int) + 1))) o7a (by omega)
    refine ⟨o6b, o7b, ?_⟩
    rw [rng_cons (by omega), fo_cons _ _ _ _ _ _ _ _ (hw _), asgT_nm, foT_some]
    simp only [List.set_cons_zero, List.set_cons_succ]
    rw [e, bnd_ok, foK_n]
    have h1 : sprN b.ga b.mo r.L j ++ [nxtF b.ga b.mo r.L (sprN b.ga b.mo r.L j) ((j : Int) + 1)] = sprN b.ga b.mo r.L (j + 1) := by rw [sprN]
    have h2 : (j : Int) + 1 + 1 = ((j + 1 : Nat) : Int) + 1 := by omega
    have h3 : j + (k + 1) = j + 1 + k := by omega
    rw [h1, h2, h3]
    exact e2
def LsOk (P : Prg) (f : Nat) : Prop := ∀ (n : Nat) (b : Bk) (r : Rd) (m : Nat) (S : Store), m ≤ 10000 → callN P (n + 1) f [bkD b, rdD r, .int (m : Int)] S = .ok (.tup ((sprL b.ga b.mo r.L m).map .int)) S
theorem lsOk {P : Prg} {f : Nat} (h0 : P f = some ⟨3, 6, B_ls, true⟩) : LsOk P f := by
  intro n b r m S hm
  rw [callN_eq n _ _ h0 rfl (Nat.le_of_ble_eq_true rfl)]
  have r62 : R62 1 ∧ R62 ((m : Int) + 1) := ⟨⟨by omega, by omega⟩, ⟨by omega, by omega⟩⟩
  have r63 : R62 1 ∧ R62 1 := ⟨⟨by omega, by omega⟩, ⟨by omega, by omega⟩⟩
  have hx : (S ++ [SO.lst [D.int 0]])[S.length]? = some (.lst [.int 0]) := by rw [st_get0]; rfl
  have L0 : LINE = 16777216 := rfl
  by_cases hc : 1 < b.mo
  · have hs : sprL b.ga b.mo r.L m = sprN b.ga b.mo r.L m := by unfold sprL; rw [if_pos hc]
    obtain ⟨o6, o7, e⟩ := ls_loop (P := P) n S b r m (by omega) ⟨rngK 1 ((m : Int) + 1), none⟩ (fun s => here_none s _) m 0 none none (by omega)
    refine end_app (env := [some (bkD b), some (rdD r), some (.int m), some (.loc S.length), o6, o7]) [.lst ((sprL b.ga b.mo r.L m).map .int)] ?_ rfl (clD_ints _ _)
    show exSs (callN P n) B_ls [some (bkD b), some (rdD r), some (.int m), none, none, none] S = _
    rw [ls_eq]
    have e' : foS (callN P n) (.nm 4) lsB ⟨rngK 1 ((m : Int) + 1), none⟩ (rngK 1 ((m : Int) + 1)) [some (bkD b), some (rdD r), some (.int m), some (.loc S.length), none, none] (S ++ [.lst [D.int 0]])
        = .ok (.next, [some (bkD b), some (rdD r), some (.int m), some (.loc S.length), o6, o7]) (S ++ [.lst ((sprL b.ga b.mo r.L m).map .int)]) := by
      rw [hs]
      have := e
      simp only [Nat.zero_add] at this
      exact this
    have hy : (S ++ [SO.lst ((sprL b.ga b.mo r.L m).map D.int)])[S.length]? = some (.lst ((sprL b.ga b.mo r.L m).map .int)) := by rw [st_get0]; rfl
    have hc2 : (decide (1 < b.mo)) = true := decide_eq_true hc
    generalize (sprL b.ga b.mo r.L m).map D.int = LD at *
    clear e hs hc hm
    walk_at "ev*"
  · have hs : sprL b.ga b.mo r.L m = [0] := by unfold sprL; rw [if_neg hc]
    rw [hs]
    refine end_app (env := [some (bkD b), some (rdD r), some (.int m), some (.loc S.length), none, none]) [.lst [.int 0]] ?_ rfl rfl
    show exSs (callN P n) B_ls [some (bkD b), some (rdD r), some (.int m), none, none, none] S = _
    rw [ls_eq]
    have hc2 : (decide (1 < b.mo)) = false := decide_eq_false hc
    have e' : foS (callN P n) (.nm 4) lsB ⟨rngK 1 1, none⟩ (rngK 1 1) [some (bkD b), some (rdD r), some (.int m), some (.loc S.length), none, none] (S ++ [.lst [D.int 0]]) = .ok (.next, [some (bkD b), some (rdD r), some (.int m), some (.loc S.length), none, none]) (S ++ [.lst [D.int 0]]) := by
      rw [rng_nil (lo := 1) (hi := 1) (by omega), fo_nil _ _ _ _ _ _ (here_none _ _)]
    clear hs hc hm
    walk_at "ev*"
    rfl
end
end SX
namespace SX
open PySem PySem.Spec PyProof.Rows L2
noncomputable section
open Classical
local macro_rules | `(tactic| walk_at "ev") => `(tactic| simp (config := { maxSteps := 3000000 }) (disch := first | assumption | omega | exact ⟨by omega, by omega⟩ | exact ⟨⟨by omega, by omega⟩, ⟨by omega, by omega⟩⟩ | exact Nat.le_of_ble_eq_true rfl | decide) only [bk0, bk1, bk2, bk3, bk4, bk5, bk6, bk7, bk8, bk9, bk10, bk11, bk12, rd0, rd1, rd2, rd3, bnd_ok, bnd_bad, binJ_eq, binK_eq, notK_eq, cmpJ_eq, cmpK_eq, idxJ_eq, idxK_eq, calJ_eq, clkJ_eq, clkK_eq, priJ_eq, isiJ_eq, metJ_eq, metI_t, metK_eq, lcJ_eq, lcK_eq, conJ_eq, conK_eq, andJ_eq, orJ_eq, rg2J_eq, nxtK_eq, setI1_eq, setI2_eq, setI3_eq, retK_eq,  vE_var, varK_ok, vE_int, vE_bl, vE_non, vE_str, vE_tup, vE_lst, vE_bin, vE_neg, vE_not, vE_and, vE_or, vE_cmp, vE_ite, brE_t, brE_f, vE_idx, vE_slc, vE_call, vE_callk, vE_prim, vE_isin, vE_meth, vE_lc, vE_gcon, toD_int, toD_strs, vE_chain, chnI_eq, chnK_eq, chnJ_t, chnJ_f, vE_tupG, tgJ_eq, tgK_eq, vE_qual, qlK_eq, vE_sumG, smK_eq, vE_lc2, l2K_eq, vEs_nil, vEs_cons, vA_one, vA_cons, vO_one, vO_cons, andK_t, andK_f, orK_t, orK_f, vT_nil, vT_cons, vI_seq, seqK_tup, seqK_rls, seqK_loc, seqL_ok, vI_range1, rg1_int, vI_range2, rg2_int,
  xS_asg, asgK_nm, asgT_nm, asgT_tp2, asgT_tp3, asgK_tp2, asgK_tp3, xS_par, parK_2, parK_3, xS_setS, xS_aug, augV_ok, augK_add, augK_sub, xS_augS, agR_some, agD_eq, agX_eq, agI_eq, agO_eq, idxM_loc, augD_add, augD_sub, xS_expr, xS_ret, xS_retN, xS_ite, brS_t, brS_f, xS_wh, whB_t, whB_f, whK_n, whK_c, whK_b, whK_r, xS_fo, foT_some, foK_n, foK_c, foK_b, foK_r, xS_brk, xS_cont, xS_pass, xSs_nil, xSs_cons, sqK_n, sqK_r, sqK_b, sqK_c,
  b_add, b_sub, b_mul, b_mulL, b_mulR, b_fdiv, b_mod, b_pow, b_addT, b_addL, addL_ok, b_repT, k_lt, k_le, k_gt, k_ge, k_eq, k_ne, k_isN, k_notN, k_in, k_nin, tr_str, q_int, q_bl, q_str, ofB_some, Option.map_some, tr_bl, tr_int, tr_non, tr_tup, tr_loc, trK_ok, td_bl, td_int, td_tup, i_tup, i_rls, i_loc, idxL_ok, okV_some, at0, at1, at2, at3, at_m1, tupK_ok, lstK_ok, negK_int, p_abs, p_int, p_intB, p_lenT, p_lenR, p_lenL, lenL_ok, p_max, p_min, p_tupT, p_tupL, tupL_ok, p_lstT, p_lstL, lstL_ok, isD_ok, m_app, appL_ok, m_pop, popL_ok, m_rev, revL_ok, recv_ok, recvL_ok, set_loc, setL_ok, setI_ok, new_eq, Bool.not_true, Bool.not_false, if_true, eq_self, decide_true, decide_false,
  List.set_cons_zero, List.set_cons_succ, List.getElem?_cons_zero, List.getElem?_cons_succ, List.length_cons, List.length_nil, Option.some.injEq])
local macro_rules | `(tactic| walk_at "ev*") => `(tactic| simp (config := { maxSteps := 3000000 }) (disch := first | assumption | omega | exact ⟨by omega, by omega⟩ | exact ⟨⟨by omega, by omega⟩, ⟨by omega, by omega⟩⟩ | exact Nat.le_of_ble_eq_true rfl | decide) only [bk0, bk1, bk2, bk3, bk4, bk5, bk6, bk7, bk8, bk9, bk10, bk11, bk12, rd0, rd1, rd2, rd3, bnd_ok, bnd_bad, binJ_eq, binK_eq, notK_eq, cmpJ_eq, cmpK_eq, idxJ_eq, idxK_eq, calJ_eq, clkJ_eq, clkK_eq, priJ_eq, isiJ_eq, metJ_eq, metI_t, metK_eq, lcJ_eq, lcK_eq, conJ_eq, conK_eq, andJ_eq, orJ_eq, rg2J_eq, nxtK_eq, setI1_eq, setI2_eq, setI3_eq, retK_eq,  vE_var, varK_ok, vE_int, vE_bl, vE_non, vE_str, vE_tup, vE_lst, vE_bin, vE_neg, vE_not, vE_and, vE_or, vE_cmp, vE_ite, brE_t, brE_f, vE_idx, vE_slc, vE_call, vE_callk, vE_prim, vE_isin, vE_meth, vE_lc, vE_gcon, toD_int, toD_strs, vE_chain, chnI_eq, chnK_eq, chnJ_t, chnJ_f, vE_tupG, tgJ_eq, tgK_eq, vE_qual, qlK_eq, vE_sumG, smK_eq, vE_lc2, l2K_eq, vEs_nil, vEs_cons, vA_one, vA_cons, vO_one, vO_cons, andK_t, andK_f, orK_t, orK_f, vT_nil, vT_cons, vI_seq, seqK_tup, seqK_rls, seqK_loc, seqL_ok, vI_range1, rg1_int, vI_range2, rg2_int,
  xS_asg, asgK_nm, asgT_nm, asgT_tp2, asgT_tp3, asgK_tp2, asgK_tp3, xS_par, parK_2, parK_3, xS_setS, xS_aug, augV_ok, augK_add, augK_sub, xS_augS, agR_some, agD_eq, agX_eq, agI_eq, agO_eq, idxM_loc, augD_add, augD_sub, xS_expr, xS_ret, xS_retN, xS_ite, brS_t, brS_f, xS_wh, whB_t, whB_f, whK_n, whK_c, whK_b, whK_r, xS_fo, foT_some, foK_n, foK_c, foK_b, foK_r, xS_brk, xS_cont, xS_pass, xSs_nil, xSs_cons, sqK_n, sqK_r, sqK_b, sqK_c,
  b_add, b_sub, b_mul, b_mulL, b_mulR, b_fdiv, b_mod, b_pow, b_addT, b_addL, addL_ok, b_repT, k_lt, k_le, k_gt, k_ge, k_eq, k_ne, k_isN, k_notN, k_in, k_nin, tr_str, q_int, q_bl, q_str, ofB_some, Option.map_some, tr_bl, tr_int, tr_non, tr_tup, tr_loc, trK_ok, td_bl, td_int, td_tup, i_tup, i_rls, i_loc, idxL_ok, okV_some, at0, at1, at2, at3, at_m1, tupK_ok, lstK_ok, negK_int, p_abs, p_int, p_intB, p_lenT, p_lenR, p_lenL, lenL_ok, p_max, p_min, p_tupT, p_tupL, tupL_ok, p_lstT, p_lstL, lstL_ok, isD_ok, m_app, appL_ok, m_pop, popL_ok, m_rev, revL_ok, recv_ok, recvL_ok, set_loc, setL_ok, setI_ok, new_eq, Bool.not_true, Bool.not_false, if_true, eq_self, decide_true, decide_false,
  List.set_cons_zero, List.set_cons_succ, List.getElem?_cons_zero, List.getElem?_cons_succ, List.length_cons, List.length_nil, Option.some.injEq, *])
local macro_rules | `(tactic| walk_at "evs") => `(tactic| simp (config := { maxSteps := 3000000 }) (disch := first | assumption | omega | exact ⟨by omega, by omega⟩ | exact ⟨⟨by omega, by omega⟩, ⟨by omega, by omega⟩⟩ | exact Nat.le_of_ble_eq_true rfl | decide) only [bk0, bk1, bk2, bk3, bk4, bk5, bk6, bk7, bk8, bk9, bk10, bk11, bk12, rd0, rd1, rd2, rd3, bnd_ok, bnd_bad, binJ_eq, binK_eq, notK_eq, cmpJ_eq, cmpK_eq, idxJ_eq, idxK_eq, calJ_eq, clkJ_eq, clkK_eq, priJ_eq, isiJ_eq, metJ_eq, metI_t, metK_eq, lcJ_eq, lcK_eq, conJ_eq, conK_eq, andJ_eq, orJ_eq, rg2J_eq, nxtK_eq, setI1_eq, setI2_eq, setI3_eq, retK_eq,  vE_var, varK_ok, vE_int, vE_bl, vE_non, vE_str, vE_tup, vE_lst, vE_bin, vE_neg, vE_not, vE_and, vE_or, vE_cmp, vE_ite, brE_t, brE_f, vE_idx, vE_slc, vE_call, vE_callk, vE_prim, vE_isin, vE_meth, vE_lc, vE_gcon, toD_int, toD_strs, vE_chain, chnI_eq, chnK_eq, chnJ_t, chnJ_f, vE_tupG, tgJ_eq, tgK_eq, vE_qual, qlK_eq, vE_sumG, smK_eq, vE_lc2, l2K_eq, vEs_nil, vEs_cons, vA_one, vA_cons, vO_one, vO_cons, andK_t, andK_f, orK_t, orK_f, vT_nil, vT_cons, vI_seq, seqK_tup, seqK_rls, seqK_loc, seqL_ok, vI_range1, rg1_int, vI_range2, rg2_int,
  xS_asg, asgK_nm, asgT_nm, asgT_tp2, asgT_tp3, asgK_tp2, asgK_tp3, xS_par, parK_2, parK_3, xS_setS, xS_aug, augV_ok, augK_add, augK_sub, xS_augS, agR_some, agD_eq, agX_eq, agI_eq, agO_eq, idxM_loc, augD_add, augD_sub, xS_expr, xS_ret, xS_retN, xS_ite, brS_t, brS_f, xS_wh, whB_t, whB_f, whK_n, whK_c, whK_b, whK_r, xS_fo, foT_some, foK_n, foK_c, foK_b, foK_r, xS_brk, xS_cont, xS_pass, xSs_nil, xSs_cons, sqK_n, sqK_r, sqK_b, sqK_c,
  b_add, b_sub, b_mul, b_mulL, b_mulR, b_fdiv, b_mod, b_pow, b_addT, b_addL, addL_ok, b_repT, k_lt, k_le, k_gt, k_ge, k_eq, k_ne, k_isN, k_notN, k_in, k_nin, tr_str, q_int, q_bl, q_str, ofB_some, Option.map_some, tr_bl, tr_int, tr_non, tr_tup, tr_loc, trK_ok, td_bl, td_int, td_tup, i_tup, i_rls, i_loc, idxL_ok, okV_some, at0, at1, at2, at3, at_m1, tupK_ok, lstK_ok, negK_int, p_abs, p_int, p_intB, p_lenT, p_lenR, p_lenL, lenL_ok, p_max, p_min, p_tupT, p_tupL, tupL_ok, p_lstT, p_lstL, lstL_ok, isD_ok, m_app, appL_ok, m_pop, popL_ok, m_rev, revL_ok, recv_ok, recvL_ok, set_loc, setL_ok, setI_ok, new_eq, Bool.not_true, Bool.not_false, if_true, eq_self, decide_true, decide_false,
  List.set_cons_zero, List.set_cons_succ, List.getElem?_cons_zero, List.getElem?_cons_succ, List.length_cons, List.length_nil, Option.some.injEq, List.cons_append, List.nil_append, List.append_assoc, Nat.reduceAdd, st_get, st_get0, st_set, st_set0, List.length_append, Nat.add_zero, Nat.zero_add, *])

/-! ### faults -/
def stS (x : String) : Str := PySem.Str.ofString x
def faultF (b : Bk) (r : Rd) : Str :=
  if b.fi + max b.gr (2 * b.fi) < r.T then PySem.Str.ofString "first"
  else if r.L + b.gr < r.T then PySem.Str.ofString "timer"
  else if b.ru = PySem.Str.ofString "guess" then
    (if 1 < b.mo ∧ lastI (sprL b.ga b.mo r.L b.k.toNat) < r.W then PySem.Str.ofString "number" else if timedF b r = true then PySem.Str.ofString "" else PySem.Str.ofString "time")
  else PySem.Str.ofString ""
def B_fault (fl mt lt sp wd td : Nat) : Ss := .cons (.ite (.cmp .lt (.call fl (.cons (.var 0) .nil)) (.call mt (.cons (.var 1) .nil))) (.cons (.ret (.cstr (PySem.Str.ofString "first"))) .nil) .nil) (.cons (.ite (.cmp .lt (.bin .add (.call lt (.cons (.var 1) .nil)) (.idx (.var 0) (.cint 2))) (.call mt (.cons (.var 1) .nil))) (.cons (.ret (.cstr (PySem.Str.ofString "timer"))) .nil) .nil) (.cons (.ite (.cmp .eq (.idx (.var 0) (.cint 11)) (.cstr (PySem.Str.ofString "guess"))) (.cons (.ite (.and (.cons (.cmp .gt (.idx (.var 0) (.cint 8)) (.cint 1)) (.cons (.cmp .lt (.idx (.call sp (.cons (.var 0) (.cons (.var 1) (.cons (.idx (.var 0) (.cint 0)) .nil)))) (.neg (.cint 1))) (.call wd (.cons (.var 1) .nil))) .nil))) (.cons (.ret (.cstr (PySem.Str.ofString "number"))) .nil) .nil) (.cons (.ite (.not (.call td (.cons (.var 0) (.cons (.var 1) .nil)))) (.cons (.ret (.cstr (PySem.Str.ofString "time"))) .nil) .nil) .nil)) .nil) (.cons (.ret (.cstr (PySem.Str.ofString ""))) .nil)))
def B_lup : Ss := .cons (.ret (.bin .sub (.cint 0) (.bin .fdiv (.bin .sub (.cint 0) (.idx (.var 0) (.cint 0))) (.idx (.var 0) (.cint 1))))) .nil
def B_lfault (ls up mo ti : Nat) : Ss := .cons (.par [2, 3, 4] (.cons (.bin .add (.idx (.var 1) (.cint 0)) (.idx (.var 1) (.cint 2))) (.cons (.bin .add (.idx (.var 1) (.cint 1)) (.idx (.var 1) (.cint 3))) (.cons (.bin .sub (.idx (.var 1) (.cint 1)) (.idx (.var 1) (.cint 0))) .nil)))) (.cons (.ite (.cmp .lt (.bin .add (.idx (.var 0) (.cint 3)) (.prim .max (.cons (.idx (.var 0) (.cint 2)) (.cons (.bin .mul (.cint 2) (.idx (.var 0) (.cint 3))) .nil)))) (.var 3)) (.cons (.ret (.cstr (PySem.Str.ofString "first"))) .nil) .nil) (.cons (.ite (.cmp .lt (.bin .add (.var 2) (.idx (.var 0) (.cint 2))) (.var 3)) (.cons (.ret (.cstr (PySem.Str.ofString "timer"))) .nil) .nil) (.cons (.ite (.and (.cons (.cmp .eq (.idx (.var 0) (.cint 11)) (.cstr (PySem.Str.ofString "guess"))) (.cons (.cmp .gt (.idx (.var 0) (.cint 8)) (.cint 1)) .nil))) (.cons (.ite (.cmp .lt (.idx (.call ls (.cons (.var 0) (.cons (.var 1) (.cons (.idx (.var 0) (.cint 0)) .nil)))) (.neg (.cint 1))) (.var 4)) (.cons (.ret (.cstr (PySem.Str.ofString "number"))) .nil) .nil) (.cons (.ite (.and (.cons (.cmp .gt (.var 4) (.idx (.var 0) (.cint 5))) (.cons (.cmp .lt (.call up (.cons (.call mo (.cons (.tup (.cons (.idx (.var 0) (.cint 2)) (.cons (.cint 1) .nil))) (.cons (.call ti (.cons (.idx (.var 0) (.cint 1)) (.cons (.tup (.cons (.var 2) (.cons (.cint 1) .nil))) .nil))) .nil))) .nil)) (.var 3)) .nil))) (.cons (.ret (.cstr (PySem.Str.ofString "time"))) .nil) .nil) .nil)) .nil) (.cons (.ret (.cstr (PySem.Str.ofString ""))) .nil))))

def FaOk (P : Prg) (f : Nat) : Prop := ∀ (n : Nat) (b : Bk) (r : Rd) (S : Store), BkOk b → RdOk r → callN P (n + 7) f [bkD b, rdD r] S = .ok (.str (faultF b r)) S
theorem faOk {P : Prg} {f fl mt lt sp wd td : Nat} (h0 : P f = some ⟨2, 2, B_fault fl mt lt sp wd td, true⟩) (hf : FlOk P fl) (hm : MtOk P mt) (hl : LtOk P lt) (hs : SpOk P sp) (hw : WdOk P wd) (ht : TdOk P td) : FaOk P f := by
  intro n b r S hb hr
  rw [callN_eq (n + 6) _ _ h0 rfl (Nat.le_of_ble_eq_true rfl)]
  refine end_pure (env := [some (bkD b), some (rdD r)]) ?_ rfl rfl
  show exSs (callN P (n + 6)) (B_fault fl mt lt sp wd td) [some (bkD b), some (rdD r)] S = _
  unfold B_fault faultF
  have x1 : callN P (n + 6) fl [bkD b] S = .ok (.int (b.fi + max b.gr (2 * b.fi))) S := hf (n + 5) b S
  have x2 : callN P (n + 6) mt [rdD r] S = .ok (.int r.T) S := hm (n + 5) r S
  have x3 : callN P (n + 6) lt [rdD r] S = .ok (.int r.L) S := hl (n + 5) r S
  have x4 : callN P (n + 6) sp [bkD b, rdD r, .int b.k] S = .ok (.tup ((sprL b.ga b.mo r.L b.k.toNat).map .int)) S := by
    have := hs (n + 4) b r b.k.toNat S (by have := hb.k; omega)
    rw [Int.toNat_of_nonneg (by have := hb.k; omega)] at this
    exact this
  have x5 : callN P (n + 6) wd [rdD r] S = .ok (.int r.W) S := hw (n + 5) r S
  have x6 : callN P (n + 6) td [bkD b, rdD r] S = .ok (.bl (timedF b r)) S := ht n b r S hb hr
  have a1 := atI_lastI (sprL_ne b.ga b.mo r.L b.k.toNat)
  generalize (sprL b.ga b.mo r.L b.k.toNat) = L at *
  generalize lastI L = la at *
  generalize L.map D.int = LD at *
  generalize b.fi + max b.gr (2 * b.fi) = fl1 at *
  generalize timedF b r = tf at *
  generalize r.W = W at *
  generalize r.T = T at *
  generalize r.L = Lt at *
  by_cases c1 : fl1 < T
  · rw [if_pos c1]
    have d1 : (decide (fl1 < T)) = true := decide_eq_true c1
    clear c1
    walk_at "ev*"
  · rw [if_neg c1]
    have d1 : (decide (fl1 < T)) = false := decide_eq_false c1
    clear c1
    by_cases c2 : Lt + b.gr < T
    · rw [if_pos c2]
      have d2 : (decide (Lt + b.gr < T)) = true := decide_eq_true c2
      clear c2
      walk_at "ev*"
    · rw [if_neg c2]
      have d2 : (decide (Lt + b.gr < T)) = false := decide_eq_false c2
      clear c2
      by_cases c3 : b.ru = PySem.Str.ofString "guess"
      · rw [if_pos c3]
        have d3 : (decide (b.ru = PySem.Str.ofString "guess")) = true := decide_eq_true c3
        clear c3
        by_cases c4 : 1 < b.mo
        · have d4 : (decide (1 < b.mo)) = true := decide_eq_true c4
          by_cases c5 : la < W
          · have d5 : (decide (la < W)) = true := decide_eq_true c5
            rw [if_pos ⟨c4, c5⟩]
            clear c4 c5
            walk_at "ev*"
          · have d5 : (decide (la < W)) = false := decide_eq_false c5
            rw [if_neg (fun z => c5 z.2)]
            clear c4 c5
            cases tf with
            | true =>
              walk_at "ev*"
            | false =>
              walk_at "ev*"
              rfl
        · have d4 : (decide (1 < b.mo)) = false := decide_eq_false c4
          rw [if_neg (fun z => c4 z.1)]
          clear c4
          cases tf with
          | true =>
            walk_at "ev*"
          | false =>
            walk_at "ev*"
            rfl
      · rw [if_neg c3]
        have d3 : (decide (b.ru = PySem.Str.ofString "guess")) = false := decide_eq_false c3
        clear c3
        walk_at "ev*"
theorem lupOk {P : Prg} {f : Nat} (h0 : P f = some ⟨1, 1, B_lup, true⟩) : UpOk P f := by
  intro n p S hp
  rw [callN_eq n _ _ h0 rfl (Nat.le_of_ble_eq_true rfl)]
  refine end_pure (env := [some (frD p)]) ?_ rfl rfl
  show exSs (callN P n) B_lup [some (frD p)] S = _
  unfold B_lup frD
  have e : upF p = 0 - (0 - p.1) / p.2 := by unfold upF; rw [Int.zero_sub, Int.zero_sub]
  rw [e]
  have c := cdiv_sm (i := 0 - p.1) hp
  walk_at "ev*"
theorem tp_eq (r : Rd) (S : Store) : True := trivial
theorem lfaOk {P : Prg} {f ls up mo ti : Nat} (h0 : P f = some ⟨2, 5, B_lfault ls up mo ti, true⟩) (hs : LsOk P ls) (hu : UpOk P up) (hm : MoreOk P mo) (ht : TimesOk P ti) : ∀ (n : Nat) (b : Bk) (r : Rd) (S : Store), BkOk b → RdOk r → 1 ≤ b.mo → callN P (n + 4) f [bkD b, rdD r] S = .ok (.str (faultF b r)) S := by
  intro n b r S hb hr hmo
  rw [callN_eq (n + 3) _ _ h0 rfl (Nat.le_of_ble_eq_true rfl)]
  refine end_pure (env := [some (bkD b), some (rdD r), some (.int r.L), some (.int r.T), some (.int r.W)]) ?_ rfl rfl
  show exSs (callN P (n + 3)) (B_lfault ls up mo ti) [some (bkD b), some (rdD r), none, none, none] S = _
  unfold B_lfault faultF
  have h1 := hr.lo; have h2 := hr.low; have h3 := hr.hi; have h4 := hr.high
  obtain ⟨s1, s2, s3⟩ := pat_sm hb (L := r.L) (by show 0 ≤ r.lo + r.low; omega) (by show r.lo + r.low < 100000; omega)
  have s4 : Sm (r.L, 1) := sm_int (by show (r.lo + r.low).natAbs < 2 ^ 64; omega)
  have x2 : callN P (n + 3) ti [frD b.th, .tup [.int r.L, .int 1]] S = .ok (frD (timesF b.th (r.L, 1))) S := ht n b.th (r.L, 1) S hb.th.sm s4
  have x3 : callN P (n + 3) mo [.tup [.int b.gr, .int 1], frD (timesF b.th (r.L, 1))] S = .ok (frD (moreF (b.gr, 1) (timesF b.th (r.L, 1)))) S := hm (n + 1) (b.gr, 1) _ S s1 s2
  have x5 : callN P (n + 3) up [frD (moreF (b.gr, 1) (timesF b.th (r.L, 1)))] S = .ok (.int (patF b r.L)) S := hu (n + 2) _ S s3
  have x4 : callN P (n + 3) ls [bkD b, rdD r, .int b.k] S = .ok (.tup ((sprL b.ga b.mo r.L b.k.toNat).map .int)) S := by
    have := hs (n + 2) b r b.k.toNat S (by have := hb.k; omega)
    rw [Int.toNat_of_nonneg (by have := hb.k; omega)] at this
    exact this
  have a1 := atI_lastI (sprL_ne b.ga b.mo r.L b.k.toNat)
  have y1 : r.lo + r.low = r.L := rfl
  have y2 : r.hi + r.high = r.T := rfl
  have y3 : r.hi - r.lo = r.W := rfl
  have tfe : timedF b r = (decide (b.mo = 1) || decide (r.W ≤ b.ga) || decide (r.T ≤ patF b r.L)) := rfl
  rw [tfe]
  generalize (sprL b.ga b.mo r.L b.k.toNat) = L at *
  generalize lastI L = la at *
  generalize L.map D.int = LD at *
  generalize patF b r.L = pt at *
  generalize timesF b.th (r.L, 1) = q1 at *
  generalize moreF (b.gr, 1) q1 = q2 at *
  generalize r.W = W at *
  generalize r.T = T at *
  generalize r.L = Lt at *
  clear h1 h2 h3 h4 s1 s2 s3 s4 tfe
  have eT : (PySem.Flow.next = PySem.Flow.next) = True := by simp
  by_cases c1 : b.fi + max b.gr (2 * b.fi) < T
  · rw [if_pos c1]
    have d1 : (decide (b.fi + max b.gr (2 * b.fi) < T)) = true := decide_eq_true c1
    clear c1
    walk_at "ev*"
  · rw [if_neg c1]
    have d1 : (decide (b.fi + max b.gr (2 * b.fi) < T)) = false := decide_eq_false c1
    clear c1
    by_cases c2 : Lt + b.gr < T
    · rw [if_pos c2]
      have d2 : (decide (Lt + b.gr < T)) = true := decide_eq_true c2
      clear c2
      walk_at "ev*"
    · rw [if_neg c2]
      have d2 : (decide (Lt + b.gr < T)) = false := decide_eq_false c2
      clear c2
      by_cases c3 : b.ru = PySem.Str.ofString "guess"
      · rw [if_pos c3]
        have d3 : (decide (b.ru = PySem.Str.ofString "guess")) = true := decide_eq_true c3
        clear c3
        by_cases c4 : 1 < b.mo
        · have d4 : (decide (1 < b.mo)) = true := decide_eq_true c4
          have d6 : (decide (b.mo = 1)) = false := decide_eq_false (by omega)
          by_cases c5 : la < W
          · have d5 : (decide (la < W)) = true := decide_eq_true c5
            rw [if_pos ⟨c4, c5⟩]
            clear c4 c5 d6 hmo
            walk_at "ev*"
          · have d5 : (decide (la < W)) = false := decide_eq_false c5
            rw [if_neg (fun z => c5 z.2), d6]
            clear c4 c5 d6 hmo
            by_cases c7 : b.ga < W
            · have d7 : (decide (b.ga < W)) = true := decide_eq_true c7
              have d8 : (decide (W ≤ b.ga)) = false := decide_eq_false (by omega)
              by_cases c9 : pt < T
              · have d9 : (decide (pt < T)) = true := decide_eq_true c9
                have d10 : (decide (T ≤ pt)) = false := decide_eq_false (by omega)
                rw [d8, d10]
                clear c7 c9 d8 d10
                walk_at "ev*"
                rfl
              · have d9 : (decide (pt < T)) = false := decide_eq_false c9
                have d10 : (decide (T ≤ pt)) = true := decide_eq_true (by omega)
                rw [d8, d10]
                clear c7 c9 d8 d10
                walk_at "ev*"
                rfl
            · have d7 : (decide (b.ga < W)) = false := decide_eq_false c7
              have d8 : (decide (W ≤ b.ga)) = true := decide_eq_true (by omega)
              rw [d8]
              clear c7 d8
              walk_at "ev*"
              rfl
        · have d4 : (decide (1 < b.mo)) = false := decide_eq_false c4
          have d6 : (decide (b.mo = 1)) = true := decide_eq_true (by omega)
          rw [if_neg (fun z => c4 z.1), d6]
          clear c4 d6 hmo
          walk_at "ev*"
          rfl
      · rw [if_neg c3]
        have d3 : (decide (b.ru = PySem.Str.ofString "guess")) = false := decide_eq_false c3
        clear c3 hmo
        walk_at "ev*"
end
end SX
namespace SX
open PySem PySem.Spec PyProof.Rows L2
noncomputable section
open Classical
local macro_rules | `(tactic| walk_at "ev") => `(tactic| simp (config := { maxSteps := 3000000 }) (disch := first | assumption | omega | exact ⟨by omega, by omega⟩ | exact ⟨⟨by omega, by omega⟩, ⟨by omega, by omega⟩⟩ | exact Nat.le_of_ble_eq_true rfl | decide) only [bk0, bk1, bk2, bk3, bk4, bk5, bk6, bk7, bk8, bk9, bk10, bk11, bk12, rd0, rd1, rd2, rd3, bnd_ok, bnd_bad, binJ_eq, binK_eq, notK_eq, cmpJ_eq, cmpK_eq, idxJ_eq, idxK_eq, calJ_eq, clkJ_eq, clkK_eq, priJ_eq, isiJ_eq, metJ_eq, metI_t, metK_eq, lcJ_eq, lcK_eq, conJ_eq, conK_eq, andJ_eq, orJ_eq, rg2J_eq, nxtK_eq, setI1_eq, setI2_eq, setI3_eq, retK_eq,  vE_var, varK_ok, vE_int, vE_bl, vE_non, vE_str, vE_tup, vE_lst, vE_bin, vE_neg, vE_not, vE_and, vE_or, vE_cmp, vE_ite, brE_t, brE_f, vE_idx, vE_slc, vE_call, vE_callk, vE_prim, vE_isin, vE_meth, vE_lc, vE_gcon, toD_int, toD_strs, vE_chain, chnI_eq, chnK_eq, chnJ_t, chnJ_f, vE_tupG, tgJ_eq, tgK_eq, vE_qual, qlK_eq, vE_sumG, smK_eq, vE_lc2, l2K_eq, vEs_nil, vEs_cons, vA_one, vA_cons, vO_one, vO_cons, andK_t, andK_f, orK_t, orK_f, vT_nil, vT_cons, vI_seq, seqK_tup, seqK_rls, seqK_loc, seqL_ok, vI_range1, rg1_int, vI_range2, rg2_int,
  xS_asg, asgK_nm, asgT_nm, asgT_tp2, asgT_tp3, asgK_tp2, asgK_tp3, xS_par, parK_2, parK_3, xS_setS, xS_aug, augV_ok, augK_add, augK_sub, xS_augS, agR_some, agD_eq, agX_eq, agI_eq, agO_eq, idxM_loc, augD_add, augD_sub, xS_expr, xS_ret, xS_retN, xS_ite, brS_t, brS_f, xS_wh, whB_t, whB_f, whK_n, whK_c, whK_b, whK_r, xS_fo, foT_some, foK_n, foK_c, foK_b, foK_r, xS_brk, xS_cont, xS_pass, xSs_nil, xSs_cons, sqK_n, sqK_r, sqK_b, sqK_c,
  b_add, b_sub, b_mul, b_mulL, b_mulR, b_fdiv, b_mod, b_pow, b_addT, b_addL, addL_ok, b_repT, k_lt, k_le, k_gt, k_ge, k_eq, k_ne, k_isN, k_notN, k_in, k_nin, tr_str, q_int, q_bl, q_str, ofB_some, Option.map_some, tr_bl, tr_int, tr_non, tr_tup, tr_loc, trK_ok, td_bl, td_int, td_tup, i_tup, i_rls, i_loc, idxL_ok, okV_some, at0, at1, at2, at3, at_m1, tupK_ok, lstK_ok, negK_int, p_abs, p_int, p_intB, p_lenT, p_lenR, p_lenL, lenL_ok, p_max, p_min, p_tupT, p_tupL, tupL_ok, p_lstT, p_lstL, lstL_ok, isD_ok, m_app, appL_ok, m_pop, popL_ok, m_rev, revL_ok, recv_ok, recvL_ok, set_loc, setL_ok, setI_ok, new_eq, Bool.not_true, Bool.not_false, if_true, eq_self, decide_true, decide_false,
  List.set_cons_zero, List.set_cons_succ, List.getElem?_cons_zero, List.getElem?_cons_succ, List.length_cons, List.length_nil, Option.some.injEq])
local macro_rules | `(tactic| walk_at "ev*") => `(tactic| simp (config := { maxSteps := 3000000 }) (disch := first | assumption | omega | exact ⟨by omega, by omega⟩ | exact ⟨⟨by omega, by omega⟩, ⟨by omega, by omega⟩⟩ | exact Nat.le_of_ble_eq_true rfl | decide) only [bk0, bk1, bk2, bk3, bk4, bk5, bk6, bk7, bk8, bk9, bk10, bk11, bk12, rd0, rd1, rd2, rd3, bnd_ok, bnd_bad, binJ_eq, binK_eq, notK_eq, cmpJ_eq, cmpK_eq, idxJ_eq, idxK_eq, calJ_eq, clkJ_eq, clkK_eq, priJ_eq, isiJ_eq, metJ_eq, metI_t, metK_eq, lcJ_eq, lcK_eq, conJ_eq, conK_eq, andJ_eq, orJ_eq, rg2J_eq, nxtK_eq, setI1_eq, setI2_eq, setI3_eq, retK_eq,  vE_var, varK_ok, vE_int, vE_bl, vE_non, vE_str, vE_tup, vE_lst, vE_bin, vE_neg, vE_not, vE_and, vE_or, vE_cmp, vE_ite, brE_t, brE_f, vE_idx, vE_slc, vE_call, vE_callk, vE_prim, vE_isin, vE_meth, vE_lc, vE_gcon, toD_int, toD_strs, vE_chain, chnI_eq, chnK_eq, chnJ_t, chnJ_f, vE_tupG, tgJ_eq, tgK_eq, vE_qual, qlK_eq, vE_sumG, smK_eq, vE_lc2, l2K_eq, vEs_nil, vEs_cons, vA_one, vA_cons, vO_one, vO_cons, andK_t, andK_f, orK_t, orK_f, vT_nil, vT_cons, vI_seq, seqK_tup, seqK_rls, seqK_loc, seqL_ok, vI_range1, rg1_int, vI_range2, rg2_int,
  xS_asg, asgK_nm, asgT_nm, asgT_tp2, asgT_tp3, asgK_tp2, asgK_tp3, xS_par, parK_2, parK_3, xS_setS, xS_aug, augV_ok, augK_add, augK_sub, xS_augS, agR_some, agD_eq, agX_eq, agI_eq, agO_eq, idxM_loc, augD_add, augD_sub, xS_expr, xS_ret, xS_retN, xS_ite, brS_t, brS_f, xS_wh, whB_t, whB_f, whK_n, whK_c, whK_b, whK_r, xS_fo, foT_some, foK_n, foK_c, foK_b, foK_r, xS_brk, xS_cont, xS_pass, xSs_nil, xSs_cons, sqK_n, sqK_r, sqK_b, sqK_c,
  b_add, b_sub, b_mul, b_mulL, b_mulR, b_fdiv, b_mod, b_pow, b_addT, b_addL, addL_ok, b_repT, k_lt, k_le, k_gt, k_ge, k_eq, k_ne, k_isN, k_notN, k_in, k_nin, tr_str, q_int, q_bl, q_str, ofB_some, Option.map_some, tr_bl, tr_int, tr_non, tr_tup, tr_loc, trK_ok, td_bl, td_int, td_tup, i_tup, i_rls, i_loc, idxL_ok, okV_some, at0, at1, at2, at3, at_m1, tupK_ok, lstK_ok, negK_int, p_abs, p_int, p_intB, p_lenT, p_lenR, p_lenL, lenL_ok, p_max, p_min, p_tupT, p_tupL, tupL_ok, p_lstT, p_lstL, lstL_ok, isD_ok, m_app, appL_ok, m_pop, popL_ok, m_rev, revL_ok, recv_ok, recvL_ok, set_loc, setL_ok, setI_ok, new_eq, Bool.not_true, Bool.not_false, if_true, eq_self, decide_true, decide_false,
  List.set_cons_zero, List.set_cons_succ, List.getElem?_cons_zero, List.getElem?_cons_succ, List.length_cons, List.length_nil, Option.some.injEq, *])
local macro_rules | `(tactic| walk_at "evs") => `(tactic| simp (config := { maxSteps := 3000000 }) (disch := first | assumption | omega | exact ⟨by omega, by omega⟩ | exact ⟨⟨by omega, by omega⟩, ⟨by omega, by omega⟩⟩ | exact Nat.le_of_ble_eq_true rfl | decide) only [bk0, bk1, bk2, bk3, bk4, bk5, bk6, bk7, bk8, bk9, bk10, bk11, bk12, rd0, rd1, rd2, rd3, bnd_ok, bnd_bad, binJ_eq, binK_eq, notK_eq, cmpJ_eq, cmpK_eq, idxJ_eq, idxK_eq, calJ_eq, clkJ_eq, clkK_eq, priJ_eq, isiJ_eq, metJ_eq, metI_t, metK_eq, lcJ_eq, lcK_eq, conJ_eq, conK_eq, andJ_eq, orJ_eq, rg2J_eq, nxtK_eq, setI1_eq, setI2_eq, setI3_eq, retK_eq,  vE_var, varK_ok, vE_int, vE_bl, vE_non, vE_str, vE_tup, vE_lst, vE_bin, vE_neg, vE_not, vE_and, vE_or, vE_cmp, vE_ite, brE_t, brE_f, vE_idx, vE_slc, vE_call, vE_callk, vE_prim, vE_isin, vE_meth, vE_lc, vE_gcon, toD_int, toD_strs, vE_chain, chnI_eq, chnK_eq, chnJ_t, chnJ_f, vE_tupG, tgJ_eq, tgK_eq, vE_qual, qlK_eq, vE_sumG, smK_eq, vE_lc2, l2K_eq, vEs_nil, vEs_cons, vA_one, vA_cons, vO_one, vO_cons, andK_t, andK_f, orK_t, orK_f, vT_nil, vT_cons, vI_seq, seqK_tup, seqK_rls, seqK_loc, seqL_ok, vI_range1, rg1_int, vI_range2, rg2_int,
  xS_asg, asgK_nm, asgT_nm, asgT_tp2, asgT_tp3, asgK_tp2, asgK_tp3, xS_par, parK_2, parK_3, xS_setS, xS_aug, augV_ok, augK_add, augK_sub, xS_augS, agR_some, agD_eq, agX_eq, agI_eq, agO_eq, idxM_loc, augD_add, augD_sub, xS_expr, xS_ret, xS_retN, xS_ite, brS_t, brS_f, xS_wh, whB_t, whB_f, whK_n, whK_c, whK_b, whK_r, xS_fo, foT_some, foK_n, foK_c, foK_b, foK_r, xS_brk, xS_cont, xS_pass, xSs_nil, xSs_cons, sqK_n, sqK_r, sqK_b, sqK_c,
  b_add, b_sub, b_mul, b_mulL, b_mulR, b_fdiv, b_mod, b_pow, b_addT, b_addL, addL_ok, b_repT, k_lt, k_le, k_gt, k_ge, k_eq, k_ne, k_isN, k_notN, k_in, k_nin, tr_str, q_int, q_bl, q_str, ofB_some, Option.map_some, tr_bl, tr_int, tr_non, tr_tup, tr_loc, trK_ok, td_bl, td_int, td_tup, i_tup, i_rls, i_loc, idxL_ok, okV_some, at0, at1, at2, at3, at_m1, tupK_ok, lstK_ok, negK_int, p_abs, p_int, p_intB, p_lenT, p_lenR, p_lenL, lenL_ok, p_max, p_min, p_tupT, p_tupL, tupL_ok, p_lstT, p_lstL, lstL_ok, isD_ok, m_app, appL_ok, m_pop, popL_ok, m_rev, revL_ok, recv_ok, recvL_ok, set_loc, setL_ok, setI_ok, new_eq, Bool.not_true, Bool.not_false, if_true, eq_self, decide_true, decide_false,
  List.set_cons_zero, List.set_cons_succ, List.getElem?_cons_zero, List.getElem?_cons_succ, List.length_cons, List.length_nil, Option.some.injEq, List.cons_append, List.nil_append, List.append_assoc, Nat.reduceAdd, st_get, st_get0, st_set, st_set0, List.length_append, Nat.add_zero, Nat.zero_add, *])

/-! ### fractions' values -/
structure Vq (p : Fr) (a b : Int) : Prop where
  eq : p.1 * b = a * p.2
  pos : 0 < p.2
theorem vq_low {a b : Int} (h : 0 < b) : Vq (lowF a b) a b := by
  obtain ⟨u, v, g, hg, e, ha, hb, hv0, hc⟩ := low_parts (a := a) h
  rw [e]
  refine ⟨?_, hv0⟩
  show u * b = a * v
  rw [ha, hb]
  grind
theorem cancelR {a b c : Int} (hc : 0 < c) (h : a * c = b * c) : a = b := Int.eq_of_mul_eq_mul_right (by omega) h
theorem vq_plus {p q : Fr} {a b c d : Int} (hp : Vq p a b) (hq : Vq q c d) : Vq (plusF p q) (a * d + c * b) (b * d) := by
  have h0 : 0 < p.2 * q.2 := Int.mul_pos hp.pos hq.pos
  have w := vq_low (a := p.1 * q.2 + q.1 * p.2) h0
  refine ⟨cancelR h0 ?_, w.pos⟩
  have h1 := hp.eq
  have h2 := hq.eq
  have h3 := w.eq
  show (plusF p q).1 * (b * d) * (p.2 * q.2) = (a * d + c * b) * (plusF p q).2 * (p.2 * q.2)
  unfold plusF
  generalize lowF (p.1 * q.2 + q.1 * p.2) (p.2 * q.2) = z at *
  grind
theorem vq_times {p q : Fr} {a b c d : Int} (hp : Vq p a b) (hq : Vq q c d) : Vq (timesF p q) (a * c) (b * d) := by
  have h0 : 0 < p.2 * q.2 := Int.mul_pos hp.pos hq.pos
  have w := vq_low (a := p.1 * q.1) h0
  refine ⟨cancelR h0 ?_, w.pos⟩
  have h1 := hp.eq
  have h2 := hq.eq
  have h3 := w.eq
  show (timesF p q).1 * (b * d) * (p.2 * q.2) = (a * c) * (timesF p q).2 * (p.2 * q.2)
  unfold timesF
  generalize lowF (p.1 * q.1) (p.2 * q.2) = z at *
  grind
theorem vq_lit {a b : Int} (h : 0 < b) : Vq (a, b) a b := ⟨rfl, h⟩
theorem vq_cut {p : Fr} {a b c : Int} (hc : 0 < c) (h : Vq p (a * c) (b * c)) : Vq p a b := ⟨cancelR hc (by have := h.eq; grind), h.pos⟩
theorem vq_eq {p : Fr} {a b a' b' : Int} (h : Vq p a b) (h1 : a = a') (h2 : b = b') : Vq p a' b' := by subst h1 h2; exact h
/-- the pair behind m samples of one length -/
theorem vq_step {p : Fr × Fr} {L x y : Int} (h1 : Vq p.1 L 1) (h2 : Vq p.2 x y) : Vq (stepF p L).1 L 1 ∧ Vq (stepF p L).2 (3 * x) (4 * y) := by
  unfold stepF
  have z : p.1.1 - L * p.1.2 = 0 := by have := h1.eq; omega
  rw [z]
  have a := vq_plus (vq_times (vq_lit (a := 7) (b := 8) (by decide)) h1) (vq_low (a := L) (b := 8) (by decide))
  have b0 := vq_low (a := ((0 : Int).natAbs : Int)) h1.pos
  have b := vq_plus (vq_times (vq_lit (a := 3) (b := 4) (by decide)) h2) (vq_times (vq_lit (a := 1) (b := 4) (by decide)) b0)
  refine ⟨vq_cut (c := 64) (by decide) (vq_eq a (by grind) (by decide)), vq_cut (c := 4 * p.1.2) (by have := h1.pos; omega) (vq_eq b ?_ (by grind))⟩
  simp
theorem vq_last {L : Int} : ∀ (m : Nat) {p : Fr × Fr} {x y : Int}, Vq p.1 L 1 → Vq p.2 x y → Vq (lastF p (List.replicate m L)).1 L 1 ∧ Vq (lastF p (List.replicate m L)).2 (3 ^ m * x) (4 ^ m * y)
  | 0, p, x, y, h1, h2 => ⟨h1, vq_eq h2 (by simp) (by simp)⟩
  | m + 1, p, x, y, h1, h2 => by
    obtain ⟨a, b⟩ := vq_step h1 h2
    obtain ⟨c, d⟩ := vq_last m a b
    rw [List.replicate_succ]
    exact ⟨c, vq_eq d (by rw [Int.pow_succ]; grind) (by rw [Int.pow_succ]; grind)⟩
theorem vq_lastOf {L : Int} (m : Nat) : Vq (lastOf (List.replicate (m + 1) L)).1 L 1 ∧ Vq (lastOf (List.replicate (m + 1) L)).2 (3 ^ m * L) (4 ^ m * 2) := by
  rw [List.replicate_succ]
  exact vq_last m (p := firstF L) ⟨rfl, (by decide : (0 : Int) < 1)⟩ (vq_low (by decide))
theorem up_le {p : Fr} {K : Int} (h : 0 < p.2) (hk : p.1 ≤ K * p.2) : upF p ≤ K := by
  unfold upF
  have : -K ≤ -p.1 / p.2 := (Int.le_ediv_iff_mul_le h).mpr (by rw [Int.neg_mul]; omega)
  omega
theorem timer_small {L g T x y : Int} {sm sp : Fr} (h1 : Vq sm L 1) (h2 : Vq sp x y) (hy : 0 < y) (hg : L + g < T) (hx : 4 * x ≤ (T - 1 - L) * y) : upF (timF sm sp g) < T := by
  have key : upF (timF sm sp g) ≤ T - 1 := by
    have q := vq_times (vq_lit (a := 4) (b := 1) (by decide)) h2
    unfold timF moreF
    split
    · have w := vq_plus h1 q
      refine up_le w.pos ?_
      have e := w.eq
      have wp := w.pos
      generalize plusF sm (timesF (4, 1) sp) = z at *
      have e2 : z.1 * y = (L * y + 4 * x) * z.2 := by grind
      have e3 : (L * y + 4 * x) * z.2 ≤ ((T - 1) * y) * z.2 := Int.mul_le_mul_of_nonneg_right (by
        have : (T - 1 - L) * y = (T - 1) * y - L * y := by grind
        omega) (by omega)
      have e4 : z.1 * y ≤ ((T - 1) * z.2) * y := by
        rw [e2]
        have : ((T - 1) * y) * z.2 = ((T - 1) * z.2) * y := by grind
        omega
      exact Int.le_of_mul_le_mul_right e4 hy
    · have w := vq_plus h1 (vq_lit (a := g) (b := 1) (by decide))
      refine up_le w.pos ?_
      have e := w.eq
      have wp := w.pos
      generalize plusF sm (g, 1) = z at *
      have e2 : z.1 = (L + g) * z.2 := by grind
      rw [e2]
      exact Int.mul_le_mul_of_nonneg_right (by omega) (by omega)
  omega
/-- the length behind m samples -/
def lenU (L g : Int) (m : Nat) : Int := upF (timF (lastOf (List.replicate m L)).1 (lastOf (List.replicate m L)).2 g)
theorem lenU_end {L g T : Int} (h0 : 0 < L) (h1 : L ≤ 4000) (hg : 1 ≤ g) (h : L + g < T) : lenU L g 40 < T := by
  obtain ⟨a, b⟩ := vq_lastOf (L := L) 39
  refine timer_small a b (by decide) h ?_
  have e3 : (3 : Int) ^ 39 = 4052555153018976267 := by decide
  have e4 : (4 : Int) ^ 39 = 302231454903657293676544 := by decide
  rw [e3, e4]
  have : 1 * (302231454903657293676544 * 2) ≤ (T - 1 - L) * (302231454903657293676544 * 2 : Int) := Int.mul_le_mul_of_nonneg_right (by omega) (by decide)
  omega
theorem lenU_sm {L g : Int} (h0 : 0 < L) (h1 : L ≤ 10000) (hg : g.natAbs < 2 ^ 60) {m : Nat} (hm : 1 ≤ m ∧ m ≤ 60) : Sm (timF (lastOf (List.replicate m L)).1 (lastOf (List.replicate m L)).2 g) := by
  have hne : List.replicate m L ≠ [] := fun z => by
    have := congrArg List.length z
    simp only [List.length_replicate, List.length_nil] at this
    omega
  have hr : ∀ r ∈ List.replicate m L, Rg r := fun r h => by rw [List.mem_replicate] at h; rw [h.2]; exact ⟨h0, h1⟩
  obtain ⟨k, hk, ok⟩ := ok_lastOf hne (by rw [List.length_replicate]; exact hm.2) hr
  unfold timF
  have l4 : Fb 1 4 (4, 1) := ⟨by decide, ⟨1, rfl⟩, by decide⟩
  have b4 := fb_times l4 ok.b
  have lg : Fb (1 * (2 * 8 ^ k)) (2 ^ 60 + 4 * (10000 * 4 ^ k)) (g, 1) := ⟨(by decide : (0 : Int) < 1), ⟨_, (Int.one_mul _).symm⟩, by show g.natAbs ≤ _ * 1; omega⟩
  have bm := fb_more lg (b4.mono (W := 2 ^ 60 + 4 * (10000 * 4 ^ k)) (by omega))
  have s := fb_plus (ok.a.up (E := 1 * (2 * 8 ^ k)) ⟨1, by omega⟩) bm
  have p4 : (4 : Nat) ^ k ≤ 2 ^ 120 := by
    have : (4 : Nat) ^ k = 2 ^ (2 * k) := by rw [Nat.pow_mul]
    rw [this]
    exact pow_le_pow (by omega)
  have p8 : (8 : Nat) ^ k ≤ 2 ^ 180 := by
    have : (8 : Nat) ^ k = 2 ^ (3 * k) := by rw [Nat.pow_mul]
    rw [this]
    exact pow_le_pow (by omega)
  have big : (2 : Nat) ^ 200 ≤ 2 ^ 1500 := pow_le_pow (by decide)
  refine s.sm (by have := Nat.pow_pos (n := k) (show 0 < 8 by decide); omega) (Nat.lt_of_lt_of_le ?_ big) (Nat.lt_of_lt_of_le ?_ big) <;> omega
def B_grown (pu : Nat) : Ss := .cons (.asg (.nm 2) (.bin .sub (.idx (.var 0) (.cint 8)) (.idx (.var 0) (.cint 6)))) (.cons (.asg (.nm 3) (.call pu (.cons (.var 0) (.cons (.var 1) .nil)))) (.cons (.ret (.tup (.cons (.tupG (.bin .mul (.var 4) (.var 3)) (.nm 4) (.range1 (.var 2)) .nil [4]) (.cons (.bin .mul (.var 2) (.var 3)) .nil)))) .nil))
def B_timerc (lt up le mt pu : Nat) : Ss := .cons (.asg (.nm 2) (.call lt (.cons (.var 1) .nil))) (.cons (.asg (.nm 3) (.cint 1)) (.cons (.wh (.cmp .ge (.call up (.cons (.call le (.cons (.var 2) (.cons (.var 2) (.cons (.var 3) (.cons (.idx (.var 0) (.cint 2)) .nil))))) .nil)) (.call mt (.cons (.var 1) .nil))) (.cons (.aug 3 .add (.cint 1)) .nil)) (.cons (.asg (.nm 4) (.tupG (.bin .mul (.var 5) (.call pu (.cons (.var 0) (.cons (.var 1) .nil)))) (.nm 5) (.range1 (.bin .add (.var 3) (.cint 1))) .nil [5])) (.cons (.ret (.tup (.cons (.tup (.cons (.tup (.cons (.var 4) (.cons (.cint 60) (.cons (.cint 0) .nil)))) .nil)) (.cons (.tup (.cons (.bin .add (.bin .mul (.tup (.cons (.idx (.var 1) (.cint 0)) .nil)) (.var 3)) (.tup (.cons (.idx (.var 1) (.cint 1)) .nil))) (.cons (.bin .add (.bin .mul (.tup (.cons (.idx (.var 1) (.cint 2)) .nil)) (.var 3)) (.tup (.cons (.idx (.var 1) (.cint 3)) .nil))) .nil))) .nil)))) .nil))))
def B_numberc (fo gm : Nat) : Ss := .cons (.asg (.tp (.cons (.nm 2) (.cons (.nm 3) .nil))) (.call fo (.cons (.var 1) .nil))) (.cons (.asg (.tp (.cons (.nm 4) (.cons (.nm 5) .nil))) (.call gm (.cons (.var 0) (.cons (.var 1) .nil)))) (.cons (.asg (.nm 6) (.bin .add (.bin .add (.bin .mul (.tup (.cons (.var 2) .nil)) (.prim .len (.cons (.var 4) .nil))) (.tup (.cons (.var 3) .nil))) (.bin .mul (.tup (.cons (.var 2) .nil)) (.idx (.var 0) (.cint 0))))) (.cons (.ret (.tup (.cons (.tup (.cons (.tup (.cons (.bin .add (.var 4) (.bin .mul (.tup (.cons (.var 5) .nil)) (.bin .add (.idx (.var 0) (.cint 0)) (.cint 1)))) (.cons (.cint 60) (.cons (.cint 0) .nil)))) .nil)) (.cons (.tup (.cons (.var 6) (.cons (.tup .nil) .nil))) .nil)))) .nil)))
def B_timec (fo ba pu : Nat) : Ss := .cons (.asg (.tp (.cons (.nm 2) (.cons (.nm 3) .nil))) (.call fo (.cons (.var 1) .nil))) (.cons (.asg (.tp (.cons (.nm 4) (.cons (.nm 5) .nil))) (.call ba (.cons (.var 1) .nil))) (.cons (.asg (.nm 6) (.call pu (.cons (.var 0) (.cons (.var 1) .nil)))) (.cons (.ret (.tup (.cons (.tup (.cons (.tup (.cons (.tup (.cons (.cint 0) (.cons (.var 6) (.cons (.var 6) .nil)))) (.cons (.cint 60) (.cons (.cint 0) .nil)))) .nil)) (.cons (.tup (.cons (.tup (.cons (.var 2) (.cons (.var 3) (.cons (.var 2) .nil)))) (.cons (.tup (.cons (.var 4) (.cons (.var 4) (.cons (.var 5) .nil)))) .nil))) .nil)))) .nil)))
def B_sure (fa tc nc ic : Nat) : Ss := .cons (.asg (.nm 2) (.call fa (.cons (.var 0) (.cons (.var 1) .nil)))) (.cons (.ite (.not (.var 2)) (.cons (.ret (.tup (.cons (.cstr (PySem.Str.ofString "sure")) .nil))) .nil) .nil) (.cons (.ite (.cmp .eq (.var 2) (.cstr (PySem.Str.ofString "first"))) (.cons (.asg (.nm 3) (.tup (.cons (.tup (.cons (.tup (.cons (.tup (.cons (.cint 0) .nil)) (.cons (.cint 60) (.cons (.cint 0) .nil)))) .nil)) (.cons (.tup (.cons (.tup (.cons (.idx (.var 1) (.cint 1)) .nil)) (.cons (.tup (.cons (.idx (.var 1) (.cint 3)) .nil)) .nil))) .nil)))) .nil) (.cons (.ite (.cmp .eq (.var 2) (.cstr (PySem.Str.ofString "timer"))) (.cons (.asg (.nm 3) (.call tc (.cons (.var 0) (.cons (.var 1) .nil)))) .nil) (.cons (.ite (.cmp .eq (.var 2) (.cstr (PySem.Str.ofString "number"))) (.cons (.asg (.nm 3) (.call nc (.cons (.var 0) (.cons (.var 1) .nil)))) .nil) (.cons (.asg (.nm 3) (.call ic (.cons (.var 0) (.cons (.var 1) .nil)))) .nil)) .nil)) .nil)) (.cons (.ret (.bin .add (.tup (.cons (.cstr (PySem.Str.ofString "needless")) (.cons (.var 2) .nil))) (.var 3))) .nil)))

/-! ### the cases -/
theorem ticks_lc (F : Fns) (env : Env) (S : Store) (i : Nat) (elt : E) (w : Walk) (hw : w.here S) (pz : Int) (hi : i < env.length) (m : Nat) (hm : m < 100000)
    (h : ∀ k : Int, 0 ≤ k → k < m → evE F elt ((wipeE env [i]).set i (some (.int k))) S = .ok (.int (k * pz)) S) :
    lcS F env (.nm i) [i] .nil elt w (rngK 0 (m : Int)) [] S = .ok (((List.range m).map fun k : Nat => (k : Int) * pz).map .int) S := by
  have L0 : LINE = 16777216 := rfl
  have := lc_map F env S (.nm i) [i] elt w hw (fun d => .int (dInt d * pz)) (rngK 0 (m : Int)) [] (by rw [len_map_rng]; simp only [List.length_nil]; omega) fun d hd => by
    obtain ⟨k, rfl, k0, k1⟩ := rng_mem hd
    exact ⟨_, asgT_nm _ _ _ _, h k k0 k1⟩
  rw [this, List.nil_append]
  unfold rngK
  simp [dInt, List.map_map, Function.comp_def]
def ticksL (m : Nat) (pz : Int) : List Int := (List.range m).map fun k : Nat => (k : Int) * pz
theorem ticks_len (m : Nat) (pz : Int) : (ticksL m pz).length = m := by unfold ticksL; simp
theorem noStrs_ints : ∀ L : List Int, noStrs (L.map .int) = true
  | [] => rfl
  | x :: xs => by
    rw [List.map_cons, noStrs, noStrs_ints xs]
    rfl
theorem depDs_ints : ∀ L : List Int, depDs (L.map .int) = 0
  | [] => rfl
  | x :: xs => by
    rw [List.map_cons, depDs, depDs_ints xs]
    rfl
structure PlX (xs : List D) : Prop where
  cl : ∀ n, clDs n xs = true
  ns : noStrs xs = true
  dp : depDs xs ≤ 10
def TcOk (P : Prg) (f : Nat) : Prop := ∀ (n : Nat) (b : Bk) (r : Rd) (S : Store), BkOk b → RdOk r → r.L + b.gr < r.T → ∃ xs, PlX xs ∧ xs.length ≤ 10 ∧ callN P (n + 8) f [bkD b, rdD r] S = .ok (.tup xs) S
def tcB : Ss := .cons (.aug 3 .add (.cint 1)) .nil
def tcC (up le mt : Nat) : E := .cmp .ge (.call up (.cons (.call le (.cons (.var 2) (.cons (.var 2) (.cons (.var 3) (.cons (.idx (.var 0) (.cint 2)) .nil))))) .nil)) (.call mt (.cons (.var 1) .nil))
theorem tc_eq (lt up le mt pu : Nat) : B_timerc lt up le mt pu = .cons (.asg (.nm 2) (.call lt (.cons (.var 1) .nil))) (.cons (.asg (.nm 3) (.cint 1)) (.cons (.wh (tcC up le mt) tcB) (.cons (.asg (.nm 4) (.tupG (.bin .mul (.var 5) (.call pu (.cons (.var 0) (.cons (.var 1) .nil)))) (.nm 5) (.range1 (.bin .add (.var 3) (.cint 1))) .nil [5])) (.cons (.ret (.tup (.cons (.tup (.cons (.tup (.cons (.var 4) (.cons (.cint 60) (.cons (.cint 0) .nil)))) .nil)) (.cons (.tup (.cons (.bin .add (.bin .mul (.tup (.cons (.idx (.var 1) (.cint 0)) .nil)) (.var 3)) (.tup (.cons (.idx (.var 1) (.cint 1)) .nil))) (.cons (.bin .add (.bin .mul (.tup (.cons (.idx (.var 1) (.cint 2)) .nil)) (.var 3)) (.tup (.cons (.idx (.var 1) (.cint 3)) .nil))) .nil))) .nil)))) .nil)))) := rfl
theorem tc_loop {F : Fns} {c : E} {S : Store} {x0 x1 x2 x4 x5 : Option D} {T : Int} {u : Nat → Int} (hc : ∀ m : Nat, 1 ≤ m ∧ m ≤ 60 → truR (evE F c [x0, x1, x2, some (.int (m : Int)), x4, x5] S) = .ok (decide (T ≤ u m)) S) (hu : u 40 < T) :
    ∀ (k m : Nat), m + k = 40 → 1 ≤ m → ∃ m' : Nat, 1 ≤ m' ∧ m' ≤ 40 ∧ whS F c tcB [x0, x1, x2, some (.int (m : Int)), x4, x5] S = .ok (.next, [x0, x1, x2, some (.int (m' : Int)), x4, x5]) S
  | 0, m, h, h1 => by
    have e : m = 40 := by omega
    subst e
    refine ⟨40, by omega, by omega, ?_⟩
    rw [whS_eq, hc 40 (by omega), decide_eq_false (by omega), bnd_ok, whB_f]
  | k + 1, m, h, h1 => by
    by_cases hm : T ≤ u m
    · obtain ⟨m', a, b, e⟩ := tc_loop hc hu k (m + 1) (by omega) (by omega)
      refine ⟨m', a, b, ?_⟩
      rw [whS_eq, hc m (by omega), decide_eq_true hm, bnd_ok, whB_t]
      have t : exSs F tcB [x0, x1, x2, some (.int (m : Int)), x4, x5] S = .ok (.next, [x0, x1, x2, some (.int ((m : Int) + 1)), x4, x5]) S := by
        unfold tcB
        walk_at "ev"
      rw [t, bnd_ok, whK_n]
      exact e
    · refine ⟨m, h1, by omega, ?_⟩
      rw [whS_eq, hc m (by omega), decide_eq_false hm, bnd_ok, whB_f]
theorem rep_ints (m : Nat) (x : Int) : (List.replicate (m : Int).toNat [D.int x]).flatten = (List.replicate m x).map .int := by
  rw [rep_flat, List.map_replicate]
  rfl
theorem mul_rep (S : Store) (x : Int) (m : Nat) (hm : m ≤ 1000) : binD .mul (.tup [.int x]) (.int (m : Int)) S = .ok (.tup ((List.replicate m x).map .int)) S := by
  rw [b_repT S ⟨by simp, by omega, by omega, by simp⟩, rep_ints]
theorem add_ints (S : Store) (a b : List Int) (h : a.length + b.length ≤ 100000) : binD .add (.tup (a.map .int)) (.tup (b.map .int)) S = .ok (.tup ((a ++ b).map .int)) S := by
  have L0 : LINE = 16777216 := rfl
  rw [b_addT S (by rw [List.length_map, List.length_map]; omega), List.map_append]
theorem tcOk {P : Prg} {f lt up le mt pu : Nat} (h0 : P f = some ⟨2, 6, B_timerc lt up le mt pu, true⟩) (hl : LtOk P lt) (hu : UpOk P up) (he : LeOk P le) (hm : MtOk P mt) (hp : PuOk P pu) : TcOk P f := by
  intro n b r S hb hr hT
  have q1 := hr.lo; have q2 := hr.low; have q3 := hr.hi; have q4 := hr.high; have q5 := hb.gr
  have L1 : 0 < r.L := by show 0 < r.lo + r.low; omega
  have L2 : r.L ≤ 4000 := by show r.lo + r.low ≤ 4000; omega
  have hg : b.gr.natAbs < 2 ^ 60 := by omega
  have x1 : callN P (n + 7) lt [rdD r] S = .ok (.int r.L) S := hl (n + 6) r S
  have x2 : callN P (n + 7) mt [rdD r] S = .ok (.int r.T) S := hm (n + 6) r S
  have x3 : callN P (n + 7) pu [bkD b, rdD r] S = .ok (.int (pauseF b r)) S := hp (n + 5) b r S
  have hc : ∀ m : Nat, 1 ≤ m ∧ m ≤ 60 → truR (evE (callN P (n + 7)) (tcC up le mt) [some (bkD b), some (rdD r), some (.int r.L), some (.int (m : Int)), none, none] S) = .ok (decide (r.T ≤ lenU r.L b.gr m)) S := fun m hm1 => by
    have y1 : callN P (n + 7) le [.int r.L, .int r.L, .int (m : Int), .int b.gr] S = .ok (frD (timF (lastOf (List.replicate m r.L)).1 (lastOf (List.replicate m r.L)).2 b.gr)) S := he (n + 1) r.L r.L m hm1 ⟨L1, by omega⟩ b.gr hg S
    have y2 : callN P (n + 7) up [frD (timF (lastOf (List.replicate m r.L)).1 (lastOf (List.replicate m r.L)).2 b.gr)] S = .ok (.int (lenU r.L b.gr m)) S := hu (n + 6) _ S (lenU_sm L1 (by omega) hg hm1)
    unfold tcC
    generalize timF (lastOf (List.replicate m r.L)).1 (lastOf (List.replicate m r.L)).2 b.gr = tt at *
    generalize lenU r.L b.gr m = uu at *
    generalize r.L = Lt at *
    generalize r.T = Tt at *
    clear hT L1 L2 hg q1 q2 q3 q4 q5
    walk_at "ev*"
  obtain ⟨m, m1, m2, ew⟩ := tc_loop hc (lenU_end L1 L2 (by omega) hT) 39 1 (by omega) (by omega)
  have tk : lcS (callN P (n + 7)) [some (bkD b), some (rdD r), some (.int r.L), some (.int (m : Int)), none, none] (.nm 5) [5] .nil (.bin .mul (.var 5) (.call pu (.cons (.var 0) (.cons (.var 1) .nil)))) ⟨rngK 0 ((m : Int) + 1), none⟩ (rngK 0 ((m : Int) + 1)) [] S = .ok ((ticksL (m + 1) (pauseF b r)).map .int) S := by
    refine ticks_lc (callN P (n + 7)) _ S 5 _ _ (here_none _ _) (pauseF b r) (by simp) (m + 1) (by omega) fun k k0 k1 => ?_
    have e : (wipeE [some (bkD b), some (rdD r), some (.int r.L), some (.int (m : Int)), none, none] [5]).set 5 (some (.int k)) = [some (bkD b), some (rdD r), some (.int r.L), some (.int (m : Int)), none, some (.int k)] := rfl
    rw [e]
    have kk : -(2 ^ 64) < k ∧ k < 2 ^ 64 := by omega
    have bm := b_mulL S (i := k) (j := pauseF b r) kk
    generalize r.L = Lt at *
    generalize r.T = Tt at *
    clear hc ew x1 x2 hT L1 L2 hg q1 q2 q3 q4 q5 kk k0 k1
    walk_at "ev*"
  rw [callN_eq (n + 7) _ _ h0 rfl (Nat.le_of_ble_eq_true rfl)]
  refine ⟨[.tup [.tup [.tup ((ticksL (m + 1) (pauseF b r)).map .int), .int 60, .int 0]], .tup [.tup ((List.replicate m r.lo ++ [r.hi]).map .int), .tup ((List.replicate m r.low ++ [r.high]).map .int)]], ⟨fun n => ?_, ?_, ?_⟩, by simp, ?_⟩
  · simp only [clDs, clD, clDs_ints, Bool.and_self]
  · simp only [noStrs, noStr, noStrs_ints, Bool.and_self]
  · simp only [depDs, depD, depDs_ints]
    decide
  refine end_pure (env := [some (bkD b), some (rdD r), some (.int r.L), some (.int (m : Int)), some (.tup ((ticksL (m + 1) (pauseF b r)).map .int)), none]) ?_ rfl (by simp only [clDs, clD, clDs_ints, Bool.and_self])
  show exSs (callN P (n + 7)) (B_timerc lt up le mt pu) [some (bkD b), some (rdD r), none, none, none, none] S = _
  rw [tc_eq]
  have r62 : R62 ((m : Int) + 1) := ⟨by omega, by omega⟩
  have b1 := mul_rep S r.lo m (by omega)
  have b2 := mul_rep S r.low m (by omega)
  have b3 := add_ints S (List.replicate m r.lo) [r.hi] (by rw [List.length_replicate]; simp; omega)
  have b4 := add_ints S (List.replicate m r.low) [r.high] (by rw [List.length_replicate]; simp; omega)
  rw [List.map_cons, List.map_nil] at b3 b4
  have ew' : whS (callN P (n + 7)) (tcC up le mt) tcB [some (bkD b), some (rdD r), some (.int r.L), some (.int 1), none, none] S = .ok (.next, [some (bkD b), some (rdD r), some (.int r.L), some (.int (m : Int)), none, none]) S := ew
  generalize (ticksL (m + 1) (pauseF b r)).map D.int = TK at *
  generalize (List.replicate m r.lo ++ [r.hi]).map D.int = R1 at *
  generalize (List.replicate m r.low ++ [r.high]).map D.int = R2 at *
  generalize (List.replicate m r.lo).map D.int = R3 at *
  generalize (List.replicate m r.low).map D.int = R4 at *
  generalize r.L = Lt at *
  clear hc ew x2 x3 hT L1 L2 hg q1 q2 q3 q4 q5 m1 m2
  walk_at "ev*"

def GmOk (P : Prg) (f : Nat) : Prop := ∀ (n : Nat) (b : Bk) (r : Rd) (S : Store), BkOk b → callN P (n + 3) f [bkD b, rdD r] S = .ok (.tup [.tup ((ticksL (b.mo - b.st).toNat (pauseF b r)).map .int), .int ((b.mo - b.st) * pauseF b r)]) S
theorem gmOk {P : Prg} {f pu : Nat} (h0 : P f = some ⟨2, 5, B_grown pu, true⟩) (hp : PuOk P pu) : GmOk P f := by
  intro n b r S hb
  have q1 := hb.st; have q2 := hb.mo
  obtain ⟨m, hm⟩ : ∃ m : Nat, b.mo - b.st = (m : Int) := ⟨(b.mo - b.st).toNat, by omega⟩
  have x3 : callN P (n + 2) pu [bkD b, rdD r] S = .ok (.int (pauseF b r)) S := hp n b r S
  rw [callN_eq (n + 2) _ _ h0 rfl (Nat.le_of_ble_eq_true rfl)]
  refine end_pure (env := [some (bkD b), some (rdD r), some (.int (m : Int)), some (.int (pauseF b r)), none]) ?_ rfl (by simp only [clDs, clD, clDs_ints, Bool.and_self])
  show exSs (callN P (n + 2)) (B_grown pu) [some (bkD b), some (rdD r), none, none, none] S = _
  unfold B_grown
  rw [hm, Int.toNat_natCast]
  have tk : lcS (callN P (n + 2)) [some (bkD b), some (rdD r), some (.int (m : Int)), some (.int (pauseF b r)), none] (.nm 4) [4] .nil (.bin .mul (.var 4) (.var 3)) ⟨rngK 0 (m : Int), none⟩ (rngK 0 (m : Int)) [] S = .ok ((ticksL m (pauseF b r)).map .int) S := by
    refine ticks_lc (callN P (n + 2)) _ S 4 _ _ (here_none _ _) (pauseF b r) (by simp) m (by omega) fun k k0 k1 => ?_
    have e : (wipeE [some (bkD b), some (rdD r), some (.int (m : Int)), some (.int (pauseF b r)), none] [4]).set 4 (some (.int k)) = [some (bkD b), some (rdD r), some (.int (m : Int)), some (.int (pauseF b r)), some (.int k)] := rfl
    rw [e]
    have kk : -(2 ^ 64) < k ∧ k < 2 ^ 64 := by omega
    have bm := b_mulL S (i := k) (j := pauseF b r) kk
    clear q1 q2 kk k0 k1 hm x3
    walk_at "ev*"
  have r62 : R62 (m : Int) := ⟨by omega, by omega⟩
  have kk : -(2 ^ 64) < (m : Int) ∧ (m : Int) < 2 ^ 64 := by omega
  have bm := b_mulL S (i := (m : Int)) (j := pauseF b r) kk
  generalize (ticksL m (pauseF b r)).map D.int = TK at *
  clear q1 q2 kk
  walk_at "ev*"
def NcOk (P : Prg) (f : Nat) : Prop := ∀ (n : Nat) (b : Bk) (r : Rd) (S : Store), BkOk b → ∃ xs, PlX xs ∧ xs.length ≤ 10 ∧ callN P (n + 4) f [bkD b, rdD r] S = .ok (.tup xs) S
theorem ncOk {P : Prg} {f fo gm : Nat} (h0 : P f = some ⟨2, 7, B_numberc fo gm, true⟩) (hf : FoOk P fo) (hg : GmOk P gm) : NcOk P f := by
  intro n b r S hb
  have q1 := hb.st; have q2 := hb.mo; have q3 := hb.k
  have x1 : callN P (n + 3) fo [rdD r] S = .ok (.tup [.int r.lo, .int r.hi]) S := hf (n + 2) r S
  have x2 : callN P (n + 3) gm [bkD b, rdD r] S = .ok (.tup [.tup ((ticksL (b.mo - b.st).toNat (pauseF b r)).map .int), .int ((b.mo - b.st) * pauseF b r)]) S := hg n b r S hb
  obtain ⟨K, hK⟩ : ∃ m : Nat, b.k = (m : Int) := ⟨b.k.toNat, by omega⟩
  have hlen : ((ticksL (b.mo - b.st).toNat (pauseF b r)).map D.int).length = (b.mo - b.st).toNat := by rw [List.length_map, ticks_len]
  have b1 := mul_rep S r.lo (b.mo - b.st).toNat (by omega)
  have b2 := mul_rep S r.lo K (by omega)
  have b3 := mul_rep S ((b.mo - b.st) * pauseF b r) (K + 1) (by omega)
  have b4 := add_ints S (List.replicate (b.mo - b.st).toNat r.lo) [r.hi] (by rw [List.length_replicate]; simp; omega)
  have b5 := add_ints S (List.replicate (b.mo - b.st).toNat r.lo ++ [r.hi]) (List.replicate K r.lo) (by rw [List.length_append, List.length_replicate, List.length_replicate]; simp; omega)
  have b6 := add_ints S (ticksL (b.mo - b.st).toNat (pauseF b r)) (List.replicate (K + 1) ((b.mo - b.st) * pauseF b r)) (by rw [List.length_replicate, ticks_len]; omega)
  have c1 : ((K + 1 : Nat) : Int) = (K : Int) + 1 := by omega
  rw [c1] at b3
  rw [List.map_cons, List.map_nil] at b4
  rw [callN_eq (n + 3) _ _ h0 rfl (Nat.le_of_ble_eq_true rfl)]
  refine ⟨[.tup [.tup [.tup ((ticksL (b.mo - b.st).toNat (pauseF b r) ++ List.replicate (K + 1) ((b.mo - b.st) * pauseF b r)).map .int), .int 60, .int 0]], .tup [.tup ((List.replicate (b.mo - b.st).toNat r.lo ++ [r.hi] ++ List.replicate K r.lo).map .int), .tup []]], ⟨fun n => by simp only [clDs, clD, clDs_ints, Bool.and_self], by simp only [noStrs, noStr, noStrs_ints, Bool.and_self], by simp only [depDs, depD, depDs_ints]; decide⟩, by simp, ?_⟩
  refine end_pure (env := [some (bkD b), some (rdD r), some (.int r.lo), some (.int r.hi), some (.tup ((ticksL (b.mo - b.st).toNat (pauseF b r)).map .int)), some (.int ((b.mo - b.st) * pauseF b r)), some (.tup ((List.replicate (b.mo - b.st).toNat r.lo ++ [r.hi] ++ List.replicate K r.lo).map .int))]) ?_ rfl (by simp only [clDs, clD, clDs_ints, Bool.and_self])
  show exSs (callN P (n + 3)) (B_numberc fo gm) [some (bkD b), some (rdD r), none, none, none, none, none] S = _
  unfold B_numberc
  generalize (ticksL (b.mo - b.st).toNat (pauseF b r) ++ List.replicate (K + 1) ((b.mo - b.st) * pauseF b r)).map D.int = R1 at *
  generalize (List.replicate (b.mo - b.st).toNat r.lo ++ [r.hi] ++ List.replicate K r.lo).map D.int = R2 at *
  generalize (List.replicate (b.mo - b.st).toNat r.lo ++ [r.hi]).map D.int = R3 at *
  generalize (List.replicate (b.mo - b.st).toNat r.lo).map D.int = R4 at *
  generalize (List.replicate K r.lo).map D.int = R5 at *
  generalize (List.replicate (K + 1) ((b.mo - b.st) * pauseF b r)).map D.int = R6 at *
  generalize (ticksL (b.mo - b.st).toNat (pauseF b r)).map D.int = R7 at *
  generalize (b.mo - b.st) * pauseF b r = pz at *
  generalize (b.mo - b.st).toNat = mm at *
  clear q1 q2 q3 c1
  walk_at "ev*"
def IcOk (P : Prg) (f : Nat) : Prop := ∀ (n : Nat) (b : Bk) (r : Rd) (S : Store), ∃ xs, PlX xs ∧ xs.length ≤ 10 ∧ callN P (n + 3) f [bkD b, rdD r] S = .ok (.tup xs) S
theorem icOk {P : Prg} {f fo ba pu : Nat} (h0 : P f = some ⟨2, 7, B_timec fo ba pu, true⟩) (hf : FoOk P fo) (hb : BaOk P ba) (hp : PuOk P pu) : IcOk P f := by
  intro n b r S
  have x1 : callN P (n + 2) fo [rdD r] S = .ok (.tup [.int r.lo, .int r.hi]) S := hf (n + 1) r S
  have x2 : callN P (n + 2) ba [rdD r] S = .ok (.tup [.int r.low, .int r.high]) S := hb (n + 1) r S
  have x3 : callN P (n + 2) pu [bkD b, rdD r] S = .ok (.int (pauseF b r)) S := hp n b r S
  rw [callN_eq (n + 2) _ _ h0 rfl (Nat.le_of_ble_eq_true rfl)]
  refine ⟨[.tup [.tup [.tup [.int 0, .int (pauseF b r), .int (pauseF b r)], .int 60, .int 0]], .tup [.tup [.int r.lo, .int r.hi, .int r.lo], .tup [.int r.low, .int r.low, .int r.high]]], ⟨fun n => rfl, rfl, by simp [depDs, depD]⟩, by simp, ?_⟩
  refine end_pure (env := [some (bkD b), some (rdD r), some (.int r.lo), some (.int r.hi), some (.int r.low), some (.int r.high), some (.int (pauseF b r))]) ?_ rfl rfl
  show exSs (callN P (n + 2)) (B_timec fo ba pu) [some (bkD b), some (rdD r), none, none, none, none, none] S = _
  unfold B_timec
  generalize pauseF b r = pz at *
  walk_at "ev*"
theorem fault_cases (b : Bk) (r : Rd) : faultF b r = PySem.Str.ofString "" ∨ faultF b r = PySem.Str.ofString "first" ∨ (faultF b r = PySem.Str.ofString "timer" ∧ r.L + b.gr < r.T) ∨ faultF b r = PySem.Str.ofString "number" ∨ faultF b r = PySem.Str.ofString "time" := by
  unfold faultF
  split
  · exact .inr (.inl rfl)
  · split
    · rename_i h
      exact .inr (.inr (.inl ⟨rfl, h⟩))
    · split
      · split
        · exact .inr (.inr (.inr (.inl rfl)))
        · split
          · exact .inl rfl
          · exact .inr (.inr (.inr (.inr rfl)))
      · exact .inl rfl
def SuOk (P : Prg) (f : Nat) : Prop := ∀ (n : Nat) (b : Bk) (r : Rd) (S : Store), BkOk b → RdOk r → (faultF b r = PySem.Str.ofString "" → callN P (n + 9) f [bkD b, rdD r] S = .ok (.tup [.str (PySem.Str.ofString "sure")]) S) ∧
  (faultF b r ≠ PySem.Str.ofString "" → ∃ xs, PlX xs ∧ callN P (n + 9) f [bkD b, rdD r] S = .ok (.tup (.str (PySem.Str.ofString "needless") :: .str (faultF b r) :: xs)) S)
theorem suOk {P : Prg} {f fa tc nc ic : Nat} (h0 : P f = some ⟨2, 4, B_sure fa tc nc ic, true⟩) (hf : FaOk P fa) (ht : TcOk P tc) (hn : NcOk P nc) (hi : IcOk P ic) : SuOk P f := by
  intro n b r S hb hr
  have x1 : callN P (n + 8) fa [bkD b, rdD r] S = .ok (.str (faultF b r)) S := hf (n + 1) b r S hb hr
  rw [callN_eq (n + 8) _ _ h0 rfl (Nat.le_of_ble_eq_true rfl)]
  have L0 : LINE = 16777216 := rfl
  have fin : ∀ (w : Str) (xs : List D), faultF b r = w → PlX xs → xs.length ≤ 10 → (exS (callN P (n + 8)) (.ite (.cmp .eq (.var 2) (.cstr (PySem.Str.ofString "first"))) (.cons (.asg (.nm 3) (.tup (.cons (.tup (.cons (.tup (.cons (.tup (.cons (.cint 0) .nil)) (.cons (.cint 60) (.cons (.cint 0) .nil)))) .nil)) (.cons (.tup (.cons (.tup (.cons (.idx (.var 1) (.cint 1)) .nil)) (.cons (.tup (.cons (.idx (.var 1) (.cint 3)) .nil)) .nil))) .nil)))) .nil) (.cons (.ite (.cmp .eq (.var 2) (.cstr (PySem.Str.ofString "timer"))) (.cons (.asg (.nm 3) (.call tc (.cons (.var 0) (.cons (.var 1) .nil)))) .nil) (.cons (.ite (.cmp .eq (.var 2) (.cstr (PySem.Str.ofString "number"))) (.cons (.asg (.nm 3) (.call nc (.cons (.var 0) (.cons (.var 1) .nil)))) .nil) (.cons (.asg (.nm 3) (.call ic (.cons (.var 0) (.cons (.var 1) .nil)))) .nil)) .nil)) .nil)) [some (bkD b), some (rdD r), some (.str w), none] S = .ok (.next, [some (bkD b), some (rdD r), some (.str w), some (.tup xs)]) S) → w.length ≤ LINE → ((w.length : Int) != 0) = true →
      ∃ xs, PlX xs ∧ endF ⟨2, 4, B_sure fa tc nc ic, true⟩ S (exSs (callN P (n + 8)) (B_sure fa tc nc ic) [some (bkD b), some (rdD r), none, none] S) = .ok (.tup (.str (PySem.Str.ofString "needless") :: .str (faultF b r) :: xs)) S := fun w xs hw hcl hx e hlw hw0 => by
    refine ⟨xs, hcl, ?_⟩
    rw [hw]
    refine end_pure (env := [some (bkD b), some (rdD r), some (.str w), some (.tup xs)]) ?_ rfl (by simp only [clDs, clD, hcl.cl, Bool.and_self])
    unfold B_sure
    rw [hw] at x1
    have hl : [D.str (PySem.Str.ofString "needless"), D.str w].length + xs.length ≤ LINE := by simp only [List.length_cons, List.length_nil]; omega
    have ba := b_addT S hl
    have tr := tr_str S hlw
    rw [hw0] at tr
    rw [xSs_cons]
    have s1 : exS (callN P (n + 8)) (.asg (.nm 2) (.call fa (.cons (.var 0) (.cons (.var 1) .nil)))) [some (bkD b), some (rdD r), none, none] S = .ok (.next, [some (bkD b), some (rdD r), some (.str w), none]) S := by
      clear e hw0 tr ba hl
      walk_at "ev*"
    rw [s1, bnd_ok, sqK_n, xSs_cons]
    have s2 : exS (callN P (n + 8)) (.ite (.not (.var 2)) (.cons (.ret (.tup (.cons (.cstr (PySem.Str.ofString "sure")) .nil))) .nil) .nil) [some (bkD b), some (rdD r), some (.str w), none] S = .ok (.next, [some (bkD b), some (rdD r), some (.str w), none]) S := by
      clear e hw0 ba hl s1 hlw
      walk_at "ev*"
    rw [s2, bnd_ok, sqK_n, xSs_cons, e, bnd_ok, sqK_n]
    clear e hw0 tr s1 s2 x1 hlw hw
    walk_at "ev*"
    rfl
  refine ⟨fun h => ?_, fun h => ?_⟩
  · refine end_pure (env := [some (bkD b), some (rdD r), some (.str (PySem.Str.ofString "")), none]) ?_ rfl rfl
    show exSs (callN P (n + 8)) (B_sure fa tc nc ic) [some (bkD b), some (rdD r), none, none] S = _
    unfold B_sure
    rw [h] at x1
    have tr := tr_str S (x := PySem.Str.ofString "") (Nat.le_of_ble_eq_true rfl)
    have z : (((PySem.Str.ofString "").length : Int) != 0) = false := by decide
    rw [z] at tr
    clear fin
    walk_at "ev*"
  · have e1 : (decide (PySem.Str.ofString "timer" = PySem.Str.ofString "first")) = false := by decide
    have e2 : (decide (PySem.Str.ofString "number" = PySem.Str.ofString "first")) = false := by decide
    have e3 : (decide (PySem.Str.ofString "number" = PySem.Str.ofString "timer")) = false := by decide
    have e4 : (decide (PySem.Str.ofString "time" = PySem.Str.ofString "first")) = false := by decide
    have e5 : (decide (PySem.Str.ofString "time" = PySem.Str.ofString "timer")) = false := by decide
    have e6 : (decide (PySem.Str.ofString "time" = PySem.Str.ofString "number")) = false := by decide
    rcases fault_cases b r with c | c | ⟨c, hT⟩ | c | c
    · exact absurd c h
    · refine fin _ [.tup [.tup [.tup [.int 0], .int 60, .int 0]], .tup [.tup [.int r.hi], .tup [.int r.high]]] c ⟨fun _ => rfl, rfl, by simp [depDs, depD]⟩ (by simp) ?_ (Nat.le_of_ble_eq_true rfl) (by decide)
      clear fin x1
      walk_at "ev"
    · obtain ⟨xs, a1, a2, a3⟩ := ht n b r S hb hr hT
      refine fin _ xs c a1 a2 ?_ (Nat.le_of_ble_eq_true rfl) (by decide)
      clear fin x1
      walk_at "ev*"
    · obtain ⟨xs, a1, a2, a3⟩ := hn (n + 4) b r S hb
      have a3 : callN P (n + 8) nc [bkD b, rdD r] S = .ok (.tup xs) S := a3
      refine fin _ xs c a1 a2 ?_ (Nat.le_of_ble_eq_true rfl) (by decide)
      clear fin x1
      walk_at "ev*"
    · obtain ⟨xs, a1, a2, a3⟩ := hi (n + 5) b r S
      have a3 : callN P (n + 8) ic [bkD b, rdD r] S = .ok (.tup xs) S := a3
      refine fin _ xs c a1 a2 ?_ (Nat.le_of_ble_eq_true rfl) (by decide)
      clear fin x1
      walk_at "ev*"
end
end SX
namespace SX
open PySem PySem.Spec PyProof.Rows L2
noncomputable section
open Classical
local macro_rules | `(tactic| walk_at "ev") => `(tactic| simp (config := { maxSteps := 3000000 }) (disch := first | assumption | omega | exact ⟨by omega, by omega⟩ | exact ⟨⟨by omega, by omega⟩, ⟨by omega, by omega⟩⟩ | exact Nat.le_of_ble_eq_true rfl | decide) only [bk0, bk1, bk2, bk3, bk4, bk5, bk6, bk7, bk8, bk9, bk10, bk11, bk12, rd0, rd1, rd2, rd3, bnd_ok, bnd_bad, binJ_eq, binK_eq, notK_eq, cmpJ_eq, cmpK_eq, idxJ_eq, idxK_eq, calJ_eq, clkJ_eq, clkK_eq, priJ_eq, isiJ_eq, metJ_eq, metI_t, metK_eq, lcJ_eq, lcK_eq, conJ_eq, conK_eq, andJ_eq, orJ_eq, rg2J_eq, nxtK_eq, setI1_eq, setI2_eq, setI3_eq, retK_eq,  vE_var, varK_ok, vE_int, vE_bl, vE_non, vE_str, vE_tup, vE_lst, vE_bin, vE_neg, vE_not, vE_and, vE_or, vE_cmp, vE_ite, brE_t, brE_f, vE_idx, vE_slc, vE_call, vE_callk, vE_prim, vE_isin, vE_meth, vE_lc, vE_gcon, toD_int, toD_strs, vE_chain, chnI_eq, chnK_eq, chnJ_t, chnJ_f, vE_tupG, tgJ_eq, tgK_eq, vE_qual, qlK_eq, vE_sumG, smK_eq, vE_lc2, l2K_eq, vEs_nil, vEs_cons, vA_one, vA_cons, vO_one, vO_cons, andK_t, andK_f, orK_t, orK_f, vT_nil, vT_cons, vI_seq, seqK_tup, seqK_rls, seqK_loc, seqL_ok, vI_range1, rg1_int, vI_range2, rg2_int,
  xS_asg, asgK_nm, asgT_nm, asgT_tp2, asgT_tp3, asgK_tp2, asgK_tp3, xS_par, parK_2, parK_3, xS_setS, xS_aug, augV_ok, augK_add, augK_sub, xS_augS, agR_some, agD_eq, agX_eq, agI_eq, agO_eq, idxM_loc, augD_add, augD_sub, xS_expr, xS_ret, xS_retN, xS_ite, brS_t, brS_f, xS_wh, whB_t, whB_f, whK_n, whK_c, whK_b, whK_r, xS_fo, foT_some, foK_n, foK_c, foK_b, foK_r, xS_brk, xS_cont, xS_pass, xSs_nil, xSs_cons, sqK_n, sqK_r, sqK_b, sqK_c,
  b_add, b_sub, b_mul, b_mulL, b_mulR, b_fdiv, b_mod, b_pow, b_addT, b_addL, addL_ok, b_repT, k_lt, k_le, k_gt, k_ge, k_eq, k_ne, k_isN, k_notN, k_in, k_nin, tr_str, q_int, q_bl, q_str, ofB_some, Option.map_some, tr_bl, tr_int, tr_non, tr_tup, tr_loc, trK_ok, td_bl, td_int, td_tup, i_tup, i_rls, i_loc, idxL_ok, okV_some, at0, at1, at2, at3, at_m1, tupK_ok, lstK_ok, negK_int, p_abs, p_int, p_intB, p_lenT, p_lenR, p_lenL, lenL_ok, p_max, p_min, p_tupT, p_tupL, tupL_ok, p_lstT, p_lstL, lstL_ok, isD_ok, m_app, appL_ok, m_pop, popL_ok, m_rev, revL_ok, recv_ok, recvL_ok, set_loc, setL_ok, setI_ok, new_eq, Bool.not_true, Bool.not_false, if_true, eq_self, decide_true, decide_false,
  List.set_cons_zero, List.set_cons_succ, List.getElem?_cons_zero, List.getElem?_cons_succ, List.length_cons, List.length_nil, Option.some.injEq])
local macro_rules | `(tactic| walk_at "ev*") => `(tactic| simp (config := { maxSteps := 3000000 }) (disch := first | assumption | omega | exact ⟨by omega, by omega⟩ | exact ⟨⟨by omega, by omega⟩, ⟨by omega, by omega⟩⟩ | exact Nat.le_of_ble_eq_true rfl | decide) only [bk0, bk1, bk2, bk3, bk4, bk5, bk6, bk7, bk8, bk9, bk10, bk11, bk12, rd0, rd1, rd2, rd3, bnd_ok, bnd_bad, binJ_eq, binK_eq, notK_eq, cmpJ_eq, cmpK_eq, idxJ_eq, idxK_eq, calJ_eq, clkJ_eq, clkK_eq, priJ_eq, isiJ_eq, metJ_eq, metI_t, metK_eq, lcJ_eq, lcK_eq, conJ_eq, conK_eq, andJ_eq, orJ_eq, rg2J_eq, nxtK_eq, setI1_eq, setI2_eq, setI3_eq, retK_eq,  vE_var, varK_ok, vE_int, vE_bl, vE_non, vE_str, vE_tup, vE_lst, vE_bin, vE_neg, vE_not, vE_and, vE_or, vE_cmp, vE_ite, brE_t, brE_f, vE_idx, vE_slc, vE_call, vE_callk, vE_prim, vE_isin, vE_meth, vE_lc, vE_gcon, toD_int, toD_strs, vE_chain, chnI_eq, chnK_eq, chnJ_t, chnJ_f, vE_tupG, tgJ_eq, tgK_eq, vE_qual, qlK_eq, vE_sumG, smK_eq, vE_lc2, l2K_eq, vEs_nil, vEs_cons, vA_one, vA_cons, vO_one, vO_cons, andK_t, andK_f, orK_t, orK_f, vT_nil, vT_cons, vI_seq, seqK_tup, seqK_rls, seqK_loc, seqL_ok, vI_range1, rg1_int, vI_range2, rg2_int,
  xS_asg, asgK_nm, asgT_nm, asgT_tp2, asgT_tp3, asgK_tp2, asgK_tp3, xS_par, parK_2, parK_3, xS_setS, xS_aug, augV_ok, augK_add, augK_sub, xS_augS, agR_some, agD_eq, agX_eq, agI_eq, agO_eq, idxM_loc, augD_add, augD_sub, xS_expr, xS_ret, xS_retN, xS_ite, brS_t, brS_f, xS_wh, whB_t, whB_f, whK_n, whK_c, whK_b, whK_r, xS_fo, foT_some, foK_n, foK_c, foK_b, foK_r, xS_brk, xS_cont, xS_pass, xSs_nil, xSs_cons, sqK_n, sqK_r, sqK_b, sqK_c,
  b_add, b_sub, b_mul, b_mulL, b_mulR, b_fdiv, b_mod, b_pow, b_addT, b_addL, addL_ok, b_repT, k_lt, k_le, k_gt, k_ge, k_eq, k_ne, k_isN, k_notN, k_in, k_nin, tr_str, q_int, q_bl, q_str, ofB_some, Option.map_some, tr_bl, tr_int, tr_non, tr_tup, tr_loc, trK_ok, td_bl, td_int, td_tup, i_tup, i_rls, i_loc, idxL_ok, okV_some, at0, at1, at2, at3, at_m1, tupK_ok, lstK_ok, negK_int, p_abs, p_int, p_intB, p_lenT, p_lenR, p_lenL, lenL_ok, p_max, p_min, p_tupT, p_tupL, tupL_ok, p_lstT, p_lstL, lstL_ok, isD_ok, m_app, appL_ok, m_pop, popL_ok, m_rev, revL_ok, recv_ok, recvL_ok, set_loc, setL_ok, setI_ok, new_eq, Bool.not_true, Bool.not_false, if_true, eq_self, decide_true, decide_false,
  List.set_cons_zero, List.set_cons_succ, List.getElem?_cons_zero, List.getElem?_cons_succ, List.length_cons, List.length_nil, Option.some.injEq, *])
local macro_rules | `(tactic| walk_at "evs") => `(tactic| simp (config := { maxSteps := 3000000 }) (disch := first | assumption | omega | exact ⟨by omega, by omega⟩ | exact ⟨⟨by omega, by omega⟩, ⟨by omega, by omega⟩⟩ | exact Nat.le_of_ble_eq_true rfl | decide) only [bk0, bk1, bk2, bk3, bk4, bk5, bk6, bk7, bk8, bk9, bk10, bk11, bk12, rd0, rd1, rd2, rd3, bnd_ok, bnd_bad, binJ_eq, binK_eq, notK_eq, cmpJ_eq, cmpK_eq, idxJ_eq, idxK_eq, calJ_eq, clkJ_eq, clkK_eq, priJ_eq, isiJ_eq, metJ_eq, metI_t, metK_eq, lcJ_eq, lcK_eq, conJ_eq, conK_eq, andJ_eq, orJ_eq, rg2J_eq, nxtK_eq, setI1_eq, setI2_eq, setI3_eq, retK_eq,  vE_var, varK_ok, vE_int, vE_bl, vE_non, vE_str, vE_tup, vE_lst, vE_bin, vE_neg, vE_not, vE_and, vE_or, vE_cmp, vE_ite, brE_t, brE_f, vE_idx, vE_slc, vE_call, vE_callk, vE_prim, vE_isin, vE_meth, vE_lc, vE_gcon, toD_int, toD_strs, vE_chain, chnI_eq, chnK_eq, chnJ_t, chnJ_f, vE_tupG, tgJ_eq, tgK_eq, vE_qual, qlK_eq, vE_sumG, smK_eq, vE_lc2, l2K_eq, vEs_nil, vEs_cons, vA_one, vA_cons, vO_one, vO_cons, andK_t, andK_f, orK_t, orK_f, vT_nil, vT_cons, vI_seq, seqK_tup, seqK_rls, seqK_loc, seqL_ok, vI_range1, rg1_int, vI_range2, rg2_int,
  xS_asg, asgK_nm, asgT_nm, asgT_tp2, asgT_tp3, asgK_tp2, asgK_tp3, xS_par, parK_2, parK_3, xS_setS, xS_aug, augV_ok, augK_add, augK_sub, xS_augS, agR_some, agD_eq, agX_eq, agI_eq, agO_eq, idxM_loc, augD_add, augD_sub, xS_expr, xS_ret, xS_retN, xS_ite, brS_t, brS_f, xS_wh, whB_t, whB_f, whK_n, whK_c, whK_b, whK_r, xS_fo, foT_some, foK_n, foK_c, foK_b, foK_r, xS_brk, xS_cont, xS_pass, xSs_nil, xSs_cons, sqK_n, sqK_r, sqK_b, sqK_c,
  b_add, b_sub, b_mul, b_mulL, b_mulR, b_fdiv, b_mod, b_pow, b_addT, b_addL, addL_ok, b_repT, k_lt, k_le, k_gt, k_ge, k_eq, k_ne, k_isN, k_notN, k_in, k_nin, tr_str, q_int, q_bl, q_str, ofB_some, Option.map_some, tr_bl, tr_int, tr_non, tr_tup, tr_loc, trK_ok, td_bl, td_int, td_tup, i_tup, i_rls, i_loc, idxL_ok, okV_some, at0, at1, at2, at3, at_m1, tupK_ok, lstK_ok, negK_int, p_abs, p_int, p_intB, p_lenT, p_lenR, p_lenL, lenL_ok, p_max, p_min, p_tupT, p_tupL, tupL_ok, p_lstT, p_lstL, lstL_ok, isD_ok, m_app, appL_ok, m_pop, popL_ok, m_rev, revL_ok, recv_ok, recvL_ok, set_loc, setL_ok, setI_ok, new_eq, Bool.not_true, Bool.not_false, if_true, eq_self, decide_true, decide_false,
  List.set_cons_zero, List.set_cons_succ, List.getElem?_cons_zero, List.getElem?_cons_succ, List.length_cons, List.length_nil, Option.some.injEq, List.cons_append, List.nil_append, List.append_assoc, Nat.reduceAdd, st_get, st_get0, st_set, st_set0, List.length_append, Nat.add_zero, Nat.zero_add, *])

/-! ### other items -/
def putAll (ds : List D) : List (Nat × D) → List D
  | [] => ds
  | q :: r => putAll (ds.set q.1 q.2) r
theorem putAll_len : ∀ (its : List (Nat × D)) (ds : List D), (putAll ds its).length = ds.length
  | [], _ => rfl
  | q :: r, ds => by rw [putAll, putAll_len r, List.length_set]
def itD (q : Nat × D) : D := .tup [.int (q.1 : Int), q.2]
def B_wi : Ss := .cons (.asg (.nm 2) (.prim .list (.cons (.var 0) .nil))) (.cons (.fo (.tp (.cons (.nm 3) (.cons (.nm 4) .nil))) (.seq (.var 1)) (.cons (.setS (.var 2) (.var 3) (.var 4)) .nil)) (.cons (.ret (.prim .tuple (.cons (.var 2) .nil))) .nil))

def wiB : Ss := .cons (.setS (.var 2) (.var 3) (.var 4)) .nil
theorem wi_eq : B_wi = .cons (.asg (.nm 2) (.prim .list (.cons (.var 0) .nil))) (.cons (.fo (.tp (.cons (.nm 3) (.cons (.nm 4) .nil))) (.seq (.var 1)) wiB) (.cons (.ret (.prim .tuple (.cons (.var 2) .nil))) .nil)) := rfl
theorem wi_loop (F : Fns) (S : Store) (x0 x1 : Option D) (w : Walk) (hw : ∀ s, w.here s) : ∀ (its : List (Nat × D)) (ds : List D) (o3 o4 : Option D), (∀ q ∈ its, q.1 < ds.length) →
    ∃ o3' o4', foS F (.tp (.cons (.nm 3) (.cons (.nm 4) .nil))) wiB w (its.map itD) [x0, x1, some (.loc S.length), o3, o4] (S ++ [.lst ds]) = .ok (.next, [x0, x1, some (.loc S.length), o3', o4']) (S ++ [.lst (putAll ds its)])
  | [], ds, o3, o4, _ => ⟨o3, o4, fo_nil _ _ _ _ _ _ (hw _)⟩
  | q :: r, ds, o3, o4, h => by
    obtain ⟨o3', o4', e⟩ := wi_loop F S x0 x1 w hw r (ds.set q.1 q.2) (some (.int (q.1 : Int))) (some q.2) (fun z hz => by rw [List.length_set]; exact h z (List.mem_cons_of_mem _ hz))
    refine ⟨o3', o4', ?_⟩
    rw [List.map_cons, fo_cons _ _ _ _ _ _ _ _ (hw _)]
    have a : asgT (.tp (.cons (.nm 3) (.cons (.nm 4) .nil))) (itD q) (S ++ [.lst ds]) [x0, x1, some (.loc S.length), o3, o4] = some [x0, x1, some (.loc S.length), some (.int (q.1 : Int)), some q.2] := rfl
    rw [a, foT_some]
    have ix : ixN ds.length (q.1 : Int) = some q.1 := ixN_nat (h q (List.mem_cons_self ..))
    have hx : (S ++ [SO.lst ds])[S.length]? = some (.lst ds) := by rw [st_get0]; rfl
    have hs : ∀ L : List D, (S ++ [SO.lst ds]).set S.length (.lst L) = S ++ [SO.lst L] := fun L => by rw [st_set0]; rfl
    have b : exSs F wiB [x0, x1, some (.loc S.length), some (.int (q.1 : Int)), some q.2] (S ++ [.lst ds]) = .ok (.next, [x0, x1, some (.loc S.length), some (.int (q.1 : Int)), some q.2]) (S ++ [.lst (ds.set q.1 q.2)]) := by
      unfold wiB
      generalize q.2 = v
      clear e a h
      walk_at "ev*"
    rw [b, bnd_ok, foK_n, e]
    rfl
def WiOk (P : Prg) (f : Nat) : Prop := ∀ (n : Nat) (ds : List D) (its : List (Nat × D)) (S : Store), (∀ q ∈ its, q.1 < ds.length) → (∀ n, clDs n (putAll ds its) = true) → callN P (n + 1) f [.tup ds, .tup (its.map itD)] S = .ok (.tup (putAll ds its)) S
theorem wiOk {P : Prg} {f : Nat} (h0 : P f = some ⟨2, 5, B_wi, true⟩) : WiOk P f := by
  intro n ds its S h hc
  rw [callN_eq n _ _ h0 rfl (Nat.le_of_ble_eq_true rfl)]
  obtain ⟨o3, o4, e⟩ := wi_loop (callN P n) S (some (.tup ds)) (some (.tup (its.map itD))) ⟨its.map itD, none⟩ (fun s => here_none s _) its ds none none h
  refine end_app (env := [some (.tup ds), some (.tup (its.map itD)), some (.loc S.length), o3, o4]) [.lst (putAll ds its)] ?_ rfl (hc _)
  show exSs (callN P n) B_wi [some (.tup ds), some (.tup (its.map itD)), none, none, none] S = _
  rw [wi_eq]
  have hx : (S ++ [SO.lst (putAll ds its)])[S.length]? = some (.lst (putAll ds its)) := by rw [st_get0]; rfl
  generalize putAll ds its = R at *
  generalize its.map itD = I at *
  clear h hc
  walk_at "ev*"
theorem wi_gf {P : Prg} {f : Nat} (h : WiOk P f) (n : Nat) (b : Bk) (g x : Int) (S : Store) : callN P (n + 1) f [bkD b, .tup [.tup [.int 2, .int g], .tup [.int 3, .int x]]] S = .ok (bkD { b with gr := g, fi := x }) S :=
  h n _ [(2, .int g), (3, .int x)] S (by simp) (fun _ => rfl)
theorem wi_k {P : Prg} {f : Nat} (h : WiOk P f) (n : Nat) (b : Bk) (k : Int) (S : Store) : callN P (n + 1) f [bkD b, .tup [.tup [.int 0, .int k]]] S = .ok (bkD { b with k := k }) S :=
  h n _ [(0, .int k)] S (by simp) (fun _ => rfl)
theorem wi_th {P : Prg} {f : Nat} (h : WiOk P f) (n : Nat) (b : Bk) (t : Fr) (S : Store) : callN P (n + 1) f [bkD b, .tup [.tup [.int 1, frD t]]] S = .ok (bkD { b with th := t }) S :=
  h n _ [(1, frD t)] S (by simp) (fun _ => rfl)
/-! ### mending -/
def lpF (g T : Int) : Nat → Int → Int
  | 0, x => x
  | n + 1, x => if x ≤ 1000 ∧ x + max g (2 * x) < T then lpF g T n (x + 1) else x
def wtF (b : Bk) (r : Rd) : Option Bk :=
  let g := max b.gr (r.T - r.L)
  let x := lpF g r.T 1001 b.fi
  if g > 1000 ∨ x > 1000 then none else some { b with gr := g, fi := x }
def thL (b : Bk) (r : Rd) : Nat → Int → Option Bk
  | 0, _ => none
  | n + 1, e => if e ≤ 72 then (if timedF { b with th := lowF e 8 } r = true then some { b with th := lowF e 8 } else thL b r n (e + 1)) else none
def thF (b : Bk) (r : Rd) : Option Bk := if timedF b r = true then some b else thL b r 73 (upF (timesF b.th (8, 1)))
def kL (b : Bk) (r : Rd) : Nat → Int → Int
  | 0, k => k
  | n + 1, k => if k ≤ 9 ∧ faultF { b with k := k } r = PySem.Str.ofString "number" then kL b r n (k + 1) else k
def mendF (b : Bk) (r : Rd) : Option Bk := match wtF b r with
  | none => none
  | some m => if b.ru = PySem.Str.ofString "guess" then (if kL m r 10 m.k > 9 then none else thF { m with k := kL m r 10 m.k } r) else some m
def obD : Option Bk → D
  | some b => bkD b
  | none => .non
theorem cl_ob (n : Nat) (o : Option Bk) : clD n (obD o) = true := by cases o <;> rfl
def B_wt (mt lt fl wi : Nat) : Ss := .cons (.asg (.nm 2) (.prim .max (.cons (.idx (.var 0) (.cint 2)) (.cons (.bin .sub (.call mt (.cons (.var 1) .nil)) (.call lt (.cons (.var 1) .nil))) .nil)))) (.cons (.asg (.nm 3) (.idx (.var 0) (.cint 3))) (.cons (.wh (.and (.cons (.cmp .le (.var 3) (.gcon (PySem.Str.ofString "MOST_GRAIN") (.int 1000))) (.cons (.cmp .lt (.call fl (.cons (.call wi (.cons (.var 0) (.cons (.tup (.cons (.tup (.cons (.cint 2) (.cons (.var 2) .nil))) (.cons (.tup (.cons (.cint 3) (.cons (.var 3) .nil))) .nil))) .nil))) .nil)) (.call mt (.cons (.var 1) .nil))) .nil))) (.cons (.aug 3 .add (.cint 1)) .nil)) (.cons (.ite (.or (.cons (.cmp .gt (.var 2) (.gcon (PySem.Str.ofString "MOST_GRAIN") (.int 1000))) (.cons (.cmp .gt (.var 3) (.gcon (PySem.Str.ofString "MOST_GRAIN") (.int 1000))) .nil))) (.cons (.ret (.cnon)) .nil) .nil) (.cons (.ret (.call wi (.cons (.var 0) (.cons (.tup (.cons (.tup (.cons (.cint 2) (.cons (.var 2) .nil))) (.cons (.tup (.cons (.cint 3) (.cons (.var 3) .nil))) .nil))) .nil)))) .nil))))
def B_wth (td up ti wi fr : Nat) : Ss := .cons (.ite (.call td (.cons (.var 0) (.cons (.var 1) .nil))) (.cons (.ret (.var 0)) .nil) .nil) (.cons (.asg (.nm 2) (.call up (.cons (.call ti (.cons (.idx (.var 0) (.cint 1)) (.cons (.tup (.cons (.cint 8) (.cons (.cint 1) .nil))) .nil))) .nil))) (.cons (.wh (.cmp .le (.var 2) (.gcon (PySem.Str.ofString "MOST_EIGHTHS") (.int 72))) (.cons (.asg (.nm 3) (.call wi (.cons (.var 0) (.cons (.tup (.cons (.tup (.cons (.cint 1) (.cons (.call fr (.cons (.var 2) (.cons (.cint 8) .nil))) .nil))) .nil)) .nil)))) (.cons (.ite (.call td (.cons (.var 3) (.cons (.var 1) .nil))) (.cons (.ret (.var 3)) .nil) .nil) (.cons (.aug 2 .add (.cint 1)) .nil)))) (.cons (.ret (.cnon)) .nil)))
def B_mended (wt fa wi wth : Nat) : Ss := .cons (.asg (.nm 2) (.call wt (.cons (.var 0) (.cons (.var 1) .nil)))) (.cons (.ite (.or (.cons (.cmp .isN (.var 2) (.cnon)) (.cons (.cmp .ne (.idx (.var 0) (.cint 11)) (.cstr (PySem.Str.ofString "guess"))) .nil))) (.cons (.ret (.var 2)) .nil) .nil) (.cons (.asg (.nm 3) (.idx (.var 2) (.cint 0))) (.cons (.wh (.and (.cons (.cmp .le (.var 3) (.gcon (PySem.Str.ofString "MOST_K") (.int 9))) (.cons (.cmp .eq (.call fa (.cons (.call wi (.cons (.var 2) (.cons (.tup (.cons (.tup (.cons (.cint 0) (.cons (.var 3) .nil))) .nil)) .nil))) (.cons (.var 1) .nil))) (.cstr (PySem.Str.ofString "number"))) .nil))) (.cons (.aug 3 .add (.cint 1)) .nil)) (.cons (.ite (.cmp .gt (.var 3) (.gcon (PySem.Str.ofString "MOST_K") (.int 9))) (.cons (.ret (.cnon)) .nil) .nil) (.cons (.ret (.call wth (.cons (.call wi (.cons (.var 2) (.cons (.tup (.cons (.tup (.cons (.cint 0) (.cons (.var 3) .nil))) .nil)) .nil))) (.cons (.var 1) .nil)))) .nil)))))

def wtC (mt fl wi : Nat) : E := .and (.cons (.cmp .le (.var 3) (.gcon (PySem.Str.ofString "MOST_GRAIN") (.int 1000))) (.cons (.cmp .lt (.call fl (.cons (.call wi (.cons (.var 0) (.cons (.tup (.cons (.tup (.cons (.cint 2) (.cons (.var 2) .nil))) (.cons (.tup (.cons (.cint 3) (.cons (.var 3) .nil))) .nil))) .nil))) .nil)) (.call mt (.cons (.var 1) .nil))) .nil))
theorem wt_eq (mt lt fl wi : Nat) : B_wt mt lt fl wi = .cons (.asg (.nm 2) (.prim .max (.cons (.idx (.var 0) (.cint 2)) (.cons (.bin .sub (.call mt (.cons (.var 1) .nil)) (.call lt (.cons (.var 1) .nil))) .nil)))) (.cons (.asg (.nm 3) (.idx (.var 0) (.cint 3))) (.cons (.wh (wtC mt fl wi) tcB) (.cons (.ite (.or (.cons (.cmp .gt (.var 2) (.gcon (PySem.Str.ofString "MOST_GRAIN") (.int 1000))) (.cons (.cmp .gt (.var 3) (.gcon (PySem.Str.ofString "MOST_GRAIN") (.int 1000))) .nil))) (.cons (.ret (.cnon)) .nil) .nil) (.cons (.ret (.call wi (.cons (.var 0) (.cons (.tup (.cons (.tup (.cons (.cint 2) (.cons (.var 2) .nil))) (.cons (.tup (.cons (.cint 3) (.cons (.var 3) .nil))) .nil))) .nil)))) .nil)))) := rfl
theorem wt_loop {F : Fns} {c : E} {S : Store} {x0 x1 x2 : Option D} {g T : Int} (hc : ∀ x : Int, truR (evE F c [x0, x1, x2, some (.int x)] S) = .ok (decide (x ≤ 1000 ∧ x + max g (2 * x) < T)) S) :
    ∀ (n : Nat) (x : Int), 1001 - x ≤ n → 0 ≤ 1001 - x → whS F c tcB [x0, x1, x2, some (.int x)] S = .ok (.next, [x0, x1, x2, some (.int (lpF g T n x))]) S
  | 0, x, h, h2 => by
    rw [whS_eq, hc x, decide_eq_false (by omega), bnd_ok, whB_f]
    rfl
  | n + 1, x, h, h2 => by
    rw [whS_eq, hc x, lpF]
    by_cases hx : x ≤ 1000 ∧ x + max g (2 * x) < T
    · rw [decide_eq_true hx, bnd_ok, whB_t, if_pos hx]
      have t : exSs F tcB [x0, x1, x2, some (.int x)] S = .ok (.next, [x0, x1, x2, some (.int (x + 1))]) S := by
        unfold tcB
        walk_at "ev"
      rw [t, bnd_ok, whK_n]
      exact wt_loop hc n (x + 1) (by omega) (by omega)
    · rw [decide_eq_false hx, bnd_ok, whB_f, if_neg hx]
theorem whS_big {F : Fns} {c : E} {b : Ss} {env : Env} {S : Store} (h : truR (evE F c env S) = .ok false S) : whS F c b env S = .ok (.next, env) S := by
  rw [whS_eq, h, bnd_ok, whB_f]
theorem lpF_big (g T : Int) : ∀ (n : Nat) (x : Int), 1000 < x → lpF g T n x = x
  | 0, x, _ => rfl
  | n + 1, x, h => by rw [lpF, if_neg (by omega)]
def WtOk (P : Prg) (f : Nat) : Prop := ∀ (n : Nat) (b : Bk) (r : Rd) (S : Store), 1 ≤ b.fi → callN P (n + 3) f [bkD b, rdD r] S = .ok (obD (wtF b r)) S
theorem wtOk {P : Prg} {f mt lt fl wi : Nat} (h0 : P f = some ⟨2, 4, B_wt mt lt fl wi, true⟩) (hm : MtOk P mt) (hl : LtOk P lt) (hf : FlOk P fl) (hw : WiOk P wi) : WtOk P f := by
  intro n b r S h1
  have x1 : callN P (n + 2) mt [rdD r] S = .ok (.int r.T) S := hm (n + 1) r S
  have x2 : callN P (n + 2) lt [rdD r] S = .ok (.int r.L) S := hl (n + 1) r S
  obtain ⟨g, hg⟩ : ∃ g, max b.gr (r.T - r.L) = g := ⟨_, rfl⟩
  have hc : ∀ x : Int, truR (evE (callN P (n + 2)) (wtC mt fl wi) [some (bkD b), some (rdD r), some (.int g), some (.int x)] S) = .ok (decide (x ≤ 1000 ∧ x + max g (2 * x) < r.T)) S := fun x => by
    have y1 := wi_gf hw (n + 1) b g x S
    have y2 : callN P (n + 2) fl [bkD { b with gr := g, fi := x }] S = .ok (.int (x + max g (2 * x))) S := hf (n + 1) _ S
    unfold wtC
    generalize bkD { b with gr := g, fi := x } = B2 at *
    generalize x + max g (2 * x) = fl1 at *
    generalize r.T = T at *
    by_cases c1 : x ≤ 1000
    · have d1 : (decide (x ≤ 1000)) = true := decide_eq_true c1
      have d2 : (decide (x ≤ 1000 ∧ fl1 < T)) = decide (fl1 < T) := by simp [c1]
      rw [d2]
      clear c1 d2 h1 hg
      walk_at "ev*"
    · have d1 : (decide (x ≤ 1000)) = false := decide_eq_false c1
      have d2 : (decide (x ≤ 1000 ∧ fl1 < T)) = false := by simp [c1]
      rw [d2]
      clear c1 d2 h1 hg
      walk_at "ev*"
  have ew : whS (callN P (n + 2)) (wtC mt fl wi) tcB [some (bkD b), some (rdD r), some (.int g), some (.int b.fi)] S = .ok (.next, [some (bkD b), some (rdD r), some (.int g), some (.int (lpF g r.T 1001 b.fi))]) S := by
    by_cases hb : b.fi ≤ 1000
    · exact wt_loop hc 1001 b.fi (by omega) (by omega)
    · rw [lpF_big _ _ _ _ (by omega)]
      exact whS_big (by rw [hc, decide_eq_false (by omega)])
  rw [callN_eq (n + 2) _ _ h0 rfl (Nat.le_of_ble_eq_true rfl)]
  obtain ⟨x, hx⟩ : ∃ x, lpF g r.T 1001 b.fi = x := ⟨_, rfl⟩
  rw [hx] at ew
  refine end_pure (env := [some (bkD b), some (rdD r), some (.int g), some (.int x)]) ?_ rfl (cl_ob _ _)
  show exSs (callN P (n + 2)) (B_wt mt lt fl wi) [some (bkD b), some (rdD r), none, none] S = _
  have y1 := wi_gf hw (n + 1) b g x S
  have er : wtF b r = if g > 1000 ∨ x > 1000 then none else some { b with gr := g, fi := x } := by
    unfold wtF
    dsimp only
    rw [hg, hx]
  rw [wt_eq, er]
  generalize r.T = T at *
  generalize r.L = Lt at *
  by_cases c1 : 1000 < g
  · have d1 : (decide (1000 < g)) = true := decide_eq_true c1
    rw [if_pos (.inl c1)]
    clear c1 hc h1 er hx y1
    walk_at "ev*"
    rfl
  · have d1 : (decide (1000 < g)) = false := decide_eq_false c1
    by_cases c2 : 1000 < x
    · have d2 : (decide (1000 < x)) = true := decide_eq_true c2
      rw [if_pos (.inr c2)]
      clear c1 c2 hc h1 er hx y1
      walk_at "ev*"
      rfl
    · have d2 : (decide (1000 < x)) = false := decide_eq_false c2
      rw [if_neg (by omega)]
      clear c1 c2 hc h1 er hx
      walk_at "ev*"
      rfl
/-- theta -/
def thB (td wi fr : Nat) : Ss := .cons (.asg (.nm 3) (.call wi (.cons (.var 0) (.cons (.tup (.cons (.tup (.cons (.cint 1) (.cons (.call fr (.cons (.var 2) (.cons (.cint 8) .nil))) .nil))) .nil)) .nil)))) (.cons (.ite (.call td (.cons (.var 3) (.cons (.var 1) .nil))) (.cons (.ret (.var 3)) .nil) .nil) (.cons (.aug 2 .add (.cint 1)) .nil))
def thC : E := .cmp .le (.var 2) (.gcon (PySem.Str.ofString "MOST_EIGHTHS") (.int 72))
theorem wth_eq (td up ti wi fr : Nat) : B_wth td up ti wi fr = .cons (.ite (.call td (.cons (.var 0) (.cons (.var 1) .nil))) (.cons (.ret (.var 0)) .nil) .nil) (.cons (.asg (.nm 2) (.call up (.cons (.call ti (.cons (.idx (.var 0) (.cint 1)) (.cons (.tup (.cons (.cint 8) (.cons (.cint 1) .nil))) .nil))) .nil))) (.cons (.wh thC (thB td wi fr)) (.cons (.ret (.cnon)) .nil))) := rfl
theorem low_pos {e : Int} (h : 0 < e) : 0 < (lowF e 8).1 := by
  have v := vq_low (a := e) (b := 8) (by decide)
  have h1 := v.eq
  have h2 := v.pos
  have : 0 < e * (lowF e 8).2 := Int.mul_pos h h2
  omega
theorem bk_th {b : Bk} (hb : BkOk b) {e : Int} (h1 : 1 ≤ e) (h2 : e ≤ 72) : BkOk { b with th := lowF e 8 } := ⟨hb.k, ti_low (by decide) (by decide) (by omega), low_pos (by omega), hb.gr, hb.fi, hb.ga, hb.st, hb.mo, hb.wa⟩
theorem th_loop {P : Prg} {td wi fr : Nat} (ht : TdOk P td) (hw : WiOk P wi) (hf : FrOk P fr) (n : Nat) (b : Bk) (r : Rd) (S : Store) (hb : BkOk b) (hr : RdOk r) : ∀ (m : Nat) (e : Int) (o3 : Option D), 1 ≤ e → (73 - e).toNat ≤ m →
    (∀ b', thL b r m e = some b' → ∃ env, whS (callN P (n + 6)) thC (thB td wi fr) [some (bkD b), some (rdD r), some (.int e), o3] S = .ok (.ret (bkD b'), env) S) ∧
    (thL b r m e = none → ∃ e' o3', whS (callN P (n + 6)) thC (thB td wi fr) [some (bkD b), some (rdD r), some (.int e), o3] S = .ok (.next, [some (bkD b), some (rdD r), some (.int e'), o3']) S) := by
  have hc : ∀ (e : Int) (o3 : Option D), truR (evE (callN P (n + 6)) thC [some (bkD b), some (rdD r), some (.int e), o3] S) = .ok (decide (e ≤ 72)) S := fun e o3 => by
    unfold thC
    walk_at "ev"
  intro m
  induction m with
  | zero =>
    intro e o3 h1 h2
    refine ⟨fun b' z => (by cases z), fun _ => ⟨e, o3, ?_⟩⟩
    rw [whS_eq, hc, decide_eq_false (by omega), bnd_ok, whB_f]
  | succ m ih =>
    intro e o3 h1 h2
    rw [whS_eq, hc, thL]
    by_cases he : e ≤ 72
    · rw [decide_eq_true he, bnd_ok, whB_t, if_pos he]
      have hb2 := bk_th hb h1 he
      have y1 : callN P (n + 6) fr [.int e, .int 8] S = .ok (frD (lowF e 8)) S := hf (n + 4) e 8 S (by decide) (Nat.lt_of_lt_of_le (by decide : (8 : Int).natAbs < 2 ^ 4) (pow_le_pow (by decide)))
      have y2 : callN P (n + 6) wi [bkD b, .tup [.tup [.int 1, frD (lowF e 8)]]] S = .ok (bkD { b with th := lowF e 8 }) S := wi_th hw (n + 5) b (lowF e 8) S
      have y3 : callN P (n + 6) td [bkD { b with th := lowF e 8 }, rdD r] S = .ok (.bl (timedF { b with th := lowF e 8 } r)) S := ht n _ r S hb2 hr
      by_cases hq : timedF { b with th := lowF e 8 } r = true
      · rw [if_pos hq]
        rw [hq] at y3
        refine ⟨fun b' z => ?_, fun z => by cases z⟩
        cases z
        refine ⟨[some (bkD b), some (rdD r), some (.int e), some (bkD { b with th := lowF e 8 })], ?_⟩
        have t : exSs (callN P (n + 6)) (thB td wi fr) [some (bkD b), some (rdD r), some (.int e), o3] S = .ok (.ret (bkD { b with th := lowF e 8 }), [some (bkD b), some (rdD r), some (.int e), some (bkD { b with th := lowF e 8 })]) S := by
          unfold thB
          generalize bkD { b with th := lowF e 8 } = B2 at *
          generalize lowF e 8 = q at *
          clear ih h1 h2 he hq hb2
          walk_at "ev*"
        rw [t, bnd_ok, whK_r]
      · rw [if_neg hq]
        rw [Bool.not_eq_true] at hq
        rw [hq] at y3
        have t : exSs (callN P (n + 6)) (thB td wi fr) [some (bkD b), some (rdD r), some (.int e), o3] S = .ok (.next, [some (bkD b), some (rdD r), some (.int (e + 1)), some (bkD { b with th := lowF e 8 })]) S := by
          unfold thB
          generalize bkD { b with th := lowF e 8 } = B2 at *
          generalize lowF e 8 = q at *
          clear ih h1 h2 he hq hb2
          walk_at "ev*"
        rw [t, bnd_ok, whK_n]
        exact ih (e + 1) _ (by omega) (by omega)
    · rw [decide_eq_false he, bnd_ok, whB_f, if_neg he]
      exact ⟨fun b' z => (by cases z), fun _ => ⟨e, o3, rfl⟩⟩
theorem up_pos {p : Fr} (h1 : 0 < p.1) (h2 : 0 < p.2) : 1 ≤ upF p := by
  unfold upF
  have : -p.1 / p.2 < 0 := Int.ediv_neg_of_neg_of_pos (by omega) h2
  omega
theorem th8 {b : Bk} (hb : BkOk b) : Sm (timesF b.th (8, 1)) ∧ 1 ≤ upF (timesF b.th (8, 1)) := by
  have s := hb.th.times (a := 8) (by decide) (by decide)
  have hp := hb.th.sm.pos
  have v := vq_times (vq_lit (a := b.th.1) (b := b.th.2) hp) (vq_lit (a := 8) (b := 1) (by decide))
  refine ⟨s, up_pos ?_ s.pos⟩
  have h1 := v.eq
  have h2 := v.pos
  have h3 : 0 < (b.th.1 * 8) * (timesF (b.th.1, b.th.2) (8, 1)).2 := Int.mul_pos (by have := hb.thp; omega) h2
  rw [← h1] at h3
  have h4 : 0 < b.th.2 * 1 := by omega
  exact Int.pos_of_mul_pos_left h3 (by omega) |> fun z => z
def ThOk (P : Prg) (f : Nat) : Prop := ∀ (n : Nat) (b : Bk) (r : Rd) (S : Store), BkOk b → RdOk r → callN P (n + 7) f [bkD b, rdD r] S = .ok (obD (thF b r)) S
theorem thOk {P : Prg} {f td up ti wi fr : Nat} (h0 : P f = some ⟨2, 4, B_wth td up ti wi fr, true⟩) (ht : TdOk P td) (hu : UpOk P up) (hi : TimesOk P ti) (hw : WiOk P wi) (hf : FrOk P fr) : ThOk P f := by
  intro n b r S hb hr
  rw [callN_eq (n + 6) _ _ h0 rfl (Nat.le_of_ble_eq_true rfl)]
  have x1 : callN P (n + 6) td [bkD b, rdD r] S = .ok (.bl (timedF b r)) S := ht n b r S hb hr
  obtain ⟨s8, u8⟩ := th8 hb
  have x2 : callN P (n + 6) ti [frD b.th, .tup [.int 8, .int 1]] S = .ok (frD (timesF b.th (8, 1))) S := hi (n + 3) b.th (8, 1) S hb.th.sm (sm_int (by decide))
  have x3 : callN P (n + 6) up [frD (timesF b.th (8, 1))] S = .ok (.int (upF (timesF b.th (8, 1)))) S := hu (n + 5) _ S s8
  have lp := th_loop ht hw hf n b r S hb hr 73 (upF (timesF b.th (8, 1))) none u8 (by omega)
  unfold thF
  generalize timesF b.th (8, 1) = q at *
  generalize upF q = e at *
  by_cases c : timedF b r = true
  · rw [c] at x1
    rw [if_pos c]
    refine end_pure (env := [some (bkD b), some (rdD r), none, none]) ?_ rfl rfl
    show exSs (callN P (n + 6)) (B_wth td up ti wi fr) [some (bkD b), some (rdD r), none, none] S = _
    rw [wth_eq]
    clear lp c u8 s8
    walk_at "ev*"
    rfl
  · rw [if_neg c]
    rw [Bool.not_eq_true] at c
    rw [c] at x1
    cases hl : thL b r 73 e with
    | some b' =>
      obtain ⟨env, ew⟩ := lp.1 b' hl
      refine end_pure (env := env) ?_ rfl (cl_bk _ _)
      show exSs (callN P (n + 6)) (B_wth td up ti wi fr) [some (bkD b), some (rdD r), none, none] S = _
      rw [wth_eq]
      clear lp c u8 s8
      walk_at "ev*"
      rfl
    | none =>
      obtain ⟨e', o3, ew⟩ := lp.2 hl
      refine end_pure (env := [some (bkD b), some (rdD r), some (.int e'), o3]) ?_ rfl rfl
      show exSs (callN P (n + 6)) (B_wth td up ti wi fr) [some (bkD b), some (rdD r), none, none] S = _
      rw [wth_eq]
      clear lp c u8 s8
      walk_at "ev*"
      rfl
/-- k -/
def kC (fa wi : Nat) : E := .and (.cons (.cmp .le (.var 3) (.gcon (PySem.Str.ofString "MOST_K") (.int 9))) (.cons (.cmp .eq (.call fa (.cons (.call wi (.cons (.var 2) (.cons (.tup (.cons (.tup (.cons (.cint 0) (.cons (.var 3) .nil))) .nil)) .nil))) (.cons (.var 1) .nil))) (.cstr (PySem.Str.ofString "number"))) .nil))
theorem mended_eq (wt fa wi wth : Nat) : B_mended wt fa wi wth = .cons (.asg (.nm 2) (.call wt (.cons (.var 0) (.cons (.var 1) .nil)))) (.cons (.ite (.or (.cons (.cmp .isN (.var 2) (.cnon)) (.cons (.cmp .ne (.idx (.var 0) (.cint 11)) (.cstr (PySem.Str.ofString "guess"))) .nil))) (.cons (.ret (.var 2)) .nil) .nil) (.cons (.asg (.nm 3) (.idx (.var 2) (.cint 0))) (.cons (.wh (kC fa wi) tcB) (.cons (.ite (.cmp .gt (.var 3) (.gcon (PySem.Str.ofString "MOST_K") (.int 9))) (.cons (.ret (.cnon)) .nil) .nil) (.cons (.ret (.call wth (.cons (.call wi (.cons (.var 2) (.cons (.tup (.cons (.tup (.cons (.cint 0) (.cons (.var 3) .nil))) .nil)) .nil))) (.cons (.var 1) .nil)))) .nil))))) := rfl
theorem bk_k {b : Bk} (hb : BkOk b) {k : Int} (h1 : 1 ≤ k) (h2 : k ≤ 100) : BkOk { b with k := k } := ⟨⟨h1, h2⟩, hb.th, hb.thp, hb.gr, hb.fi, hb.ga, hb.st, hb.mo, hb.wa⟩
theorem k_loop {P : Prg} {fa wi : Nat} (hf : FaOk P fa) (hw : WiOk P wi) (n : Nat) (b0 : D) (m : Bk) (r : Rd) (S : Store) (hm : BkOk m) (hr : RdOk r) : ∀ (u : Nat) (k : Int), 1 ≤ k → k ≤ 100 → (10 - k).toNat ≤ u →
    whS (callN P (n + 7)) (kC fa wi) tcB [some b0, some (rdD r), some (bkD m), some (.int k)] S = .ok (.next, [some b0, some (rdD r), some (bkD m), some (.int (kL m r u k))]) S ∧ 1 ≤ kL m r u k ∧ kL m r u k ≤ 100 := by
  have hc : ∀ k : Int, 1 ≤ k → k ≤ 100 → truR (evE (callN P (n + 7)) (kC fa wi) [some b0, some (rdD r), some (bkD m), some (.int k)] S) = .ok (decide (k ≤ 9 ∧ faultF { m with k := k } r = PySem.Str.ofString "number")) S := fun k k1 k2 => by
    have y1 : callN P (n + 7) wi [bkD m, .tup [.tup [.int 0, .int k]]] S = .ok (bkD { m with k := k }) S := wi_k hw (n + 6) m k S
    have y2 : callN P (n + 7) fa [bkD { m with k := k }, rdD r] S = .ok (.str (faultF { m with k := k } r)) S := hf n _ r S (bk_k hm k1 k2) hr
    unfold kC
    generalize bkD { m with k := k } = B2 at *
    generalize faultF { m with k := k } r = ft at *
    by_cases c1 : k ≤ 9
    · have d1 : (decide (k ≤ 9)) = true := decide_eq_true c1
      have d2 : (decide (k ≤ 9 ∧ ft = PySem.Str.ofString "number")) = decide (ft = PySem.Str.ofString "number") := by simp [c1]
      rw [d2]
      clear c1 d2 k1 k2
      walk_at "ev*"
    · have d1 : (decide (k ≤ 9)) = false := decide_eq_false c1
      have d2 : (decide (k ≤ 9 ∧ ft = PySem.Str.ofString "number")) = false := by simp [c1]
      rw [d2]
      clear c1 d2 k1 k2
      walk_at "ev*"
  intro u
  induction u with
  | zero =>
    intro k k1 k2 h
    refine ⟨?_, k1, k2⟩
    rw [whS_eq, hc k k1 k2, decide_eq_false (by omega), bnd_ok, whB_f]
    rfl
  | succ u ih =>
    intro k k1 k2 h
    rw [whS_eq, hc k k1 k2, kL]
    by_cases c : k ≤ 9 ∧ faultF { m with k := k } r = PySem.Str.ofString "number"
    · rw [decide_eq_true c, bnd_ok, whB_t, if_pos c]
      have t : exSs (callN P (n + 7)) tcB [some b0, some (rdD r), some (bkD m), some (.int k)] S = .ok (.next, [some b0, some (rdD r), some (bkD m), some (.int (k + 1))]) S := by
        unfold tcB
        walk_at "ev"
      rw [t, bnd_ok, whK_n]
      exact ih (k + 1) (by omega) (by omega) (by omega)
    · rw [decide_eq_false c, bnd_ok, whB_f, if_neg c]
      exact ⟨rfl, k1, k2⟩
theorem wt_bk {b m : Bk} {r : Rd} (hb : BkOk b) (h : wtF b r = some m) : BkOk m ∧ m.k = b.k ∧ m.ru = b.ru ∧ m.mo = b.mo := by
  unfold wtF at h
  dsimp only at h
  split at h
  · cases h
  · rename_i c
    cases h
    refine ⟨⟨hb.k, hb.th, hb.thp, ⟨?_, ?_⟩, ⟨?_, ?_⟩, hb.ga, hb.st, hb.mo, hb.wa⟩, rfl, rfl, rfl⟩
    · have := hb.gr; show 1 ≤ max b.gr (r.T - r.L); omega
    · show max b.gr (r.T - r.L) ≤ 10000; omega
    · show 1 ≤ lpF (max b.gr (r.T - r.L)) r.T 1001 b.fi
      have : ∀ (n : Nat) (x : Int), x ≤ lpF (max b.gr (r.T - r.L)) r.T n x := by
        intro n
        induction n with
        | zero => intro x; exact Int.le_refl _
        | succ n ih =>
          intro x
          rw [lpF]
          split
          · have := ih (x + 1); omega
          · omega
      have q := this 1001 b.fi
      have := hb.fi
      omega
    · show lpF (max b.gr (r.T - r.L)) r.T 1001 b.fi ≤ 10000; omega
def MeOk (P : Prg) (f : Nat) : Prop := ∀ (n : Nat) (b : Bk) (r : Rd) (S : Store), BkOk b → RdOk r → callN P (n + 8) f [bkD b, rdD r] S = .ok (obD (mendF b r)) S
theorem meOk {P : Prg} {f wt fa wi wth : Nat} (h0 : P f = some ⟨2, 4, B_mended wt fa wi wth, true⟩) (ht : WtOk P wt) (hf : FaOk P fa) (hw : WiOk P wi) (hh : ThOk P wth) : MeOk P f := by
  intro n b r S hb hr
  rw [callN_eq (n + 7) _ _ h0 rfl (Nat.le_of_ble_eq_true rfl)]
  have x1 : callN P (n + 7) wt [bkD b, rdD r] S = .ok (obD (wtF b r)) S := ht (n + 4) b r S hb.fi.1
  unfold mendF
  cases hm : wtF b r with
  | none =>
    rw [hm] at x1
    refine end_pure (env := [some (bkD b), some (rdD r), some .non, none]) ?_ rfl rfl
    show exSs (callN P (n + 7)) (B_mended wt fa wi wth) [some (bkD b), some (rdD r), none, none] S = _
    rw [mended_eq]
    replace x1 : callN P (n + 7) wt [bkD b, rdD r] S = .ok .non S := x1
    have isn : isNonD .non = true := rfl
    walk_at "ev*"
    rfl
  | some m =>
    rw [hm] at x1
    replace x1 : callN P (n + 7) wt [bkD b, rdD r] S = .ok (bkD m) S := x1
    obtain ⟨bm, mk, mr, mm⟩ := wt_bk hb hm
    have isn : isNonD (bkD m) = false := rfl
    have lp := k_loop hf hw n (bkD b) m r S bm hr 10 m.k (by rw [mk]; exact hb.k.1) (by rw [mk]; exact hb.k.2) (by rw [mk]; have := hb.k; omega)
    dsimp only
    generalize kL m r 10 m.k = k at *
    obtain ⟨ew, k1, k2⟩ := lp
    by_cases c3 : b.ru = PySem.Str.ofString "guess"
    · have d3 : (decide (b.ru = PySem.Str.ofString "guess")) = true := decide_eq_true c3
      rw [if_pos c3]
      by_cases c4 : k > 9
      · have d4 : (decide (9 < k)) = true := decide_eq_true c4
        rw [if_pos c4]
        refine end_pure (env := [some (bkD b), some (rdD r), some (bkD m), some (.int k)]) ?_ rfl rfl
        show exSs (callN P (n + 7)) (B_mended wt fa wi wth) [some (bkD b), some (rdD r), none, none] S = _
        rw [mended_eq]
        clear c3 c4 k1 k2 hm mk mr mm
        walk_at "ev*"
        rfl
      · have d4 : (decide (9 < k)) = false := decide_eq_false c4
        rw [if_neg c4]
        refine end_pure (env := [some (bkD b), some (rdD r), some (bkD m), some (.int k)]) ?_ rfl (cl_ob _ _)
        show exSs (callN P (n + 7)) (B_mended wt fa wi wth) [some (bkD b), some (rdD r), none, none] S = _
        rw [mended_eq]
        have y1 : callN P (n + 7) wi [bkD m, .tup [.tup [.int 0, .int k]]] S = .ok (bkD { m with k := k }) S := wi_k hw (n + 6) m k S
        have y2 : callN P (n + 7) wth [bkD { m with k := k }, rdD r] S = .ok (obD (thF { m with k := k } r)) S := hh n _ r S (bk_k bm k1 k2) hr
        generalize thF { m with k := k } r = th at *
        generalize bkD { m with k := k } = B2 at *
        clear c3 c4 k1 k2 hm mk mr mm
        walk_at "ev*"
    · have d3 : (decide (b.ru = PySem.Str.ofString "guess")) = false := decide_eq_false c3
      rw [if_neg c3]
      refine end_pure (env := [some (bkD b), some (rdD r), some (bkD m), none]) ?_ rfl rfl
      show exSs (callN P (n + 7)) (B_mended wt fa wi wth) [some (bkD b), some (rdD r), none, none] S = _
      rw [mended_eq]
      clear c3 k1 k2 hm ew mk mr mm
      walk_at "ev*"
      rfl
end
end SX
namespace SX
open PySem PySem.Spec PyProof.Rows L2
noncomputable section
open Classical
local macro_rules | `(tactic| walk_at "ev") => `(tactic| simp (config := { maxSteps := 3000000 }) (disch := first | assumption | omega | exact ⟨by omega, by omega⟩ | exact ⟨⟨by omega, by omega⟩, ⟨by omega, by omega⟩⟩ | exact Nat.le_of_ble_eq_true rfl | decide) only [bnd_ok, bnd_bad, binJ_eq, binK_eq, notK_eq, cmpJ_eq, cmpK_eq, idxJ_eq, idxK_eq, calJ_eq, clkJ_eq, clkK_eq, priJ_eq, isiJ_eq, metJ_eq, metI_t, metK_eq, lcJ_eq, lcK_eq, conJ_eq, conK_eq, andJ_eq, orJ_eq, rg2J_eq, nxtK_eq, setI1_eq, setI2_eq, setI3_eq, retK_eq,  vE_var, varK_ok, vE_int, vE_bl, vE_non, vE_str, vE_tup, vE_lst, vE_bin, vE_neg, vE_not, vE_and, vE_or, vE_cmp, vE_ite, brE_t, brE_f, vE_idx, vE_slc, vE_call, vE_callk, vE_prim, vE_isin, vE_meth, vE_lc, vE_gcon, toD_int, toD_strs, vE_chain, chnI_eq, chnK_eq, chnJ_t, chnJ_f, vE_tupG, tgJ_eq, tgK_eq, vE_qual, qlK_eq, vE_sumG, smK_eq, vE_lc2, l2K_eq, vEs_nil, vEs_cons, vA_one, vA_cons, vO_one, vO_cons, andK_t, andK_f, orK_t, orK_f, vT_nil, vT_cons, vI_seq, seqK_tup, seqK_rls, seqK_loc, seqL_ok, vI_range1, rg1_int, vI_range2, rg2_int,
  xS_asg, asgK_nm, asgT_nm, asgT_tp2, asgT_tp3, asgK_tp2, asgK_tp3, xS_par, parK_2, parK_3, xS_setS, xS_aug, augV_ok, augK_add, augK_sub, xS_augS, agR_some, agD_eq, agX_eq, agI_eq, agO_eq, idxM_loc, augD_add, augD_sub, xS_expr, xS_ret, xS_retN, xS_ite, brS_t, brS_f, xS_wh, whB_t, whB_f, whK_n, whK_c, whK_b, whK_r, xS_fo, foT_some, foK_n, foK_c, foK_b, foK_r, xS_brk, xS_cont, xS_pass, xSs_nil, xSs_cons, sqK_n, sqK_r, sqK_b, sqK_c,
  b_add, b_sub, b_mul, b_mulL, b_mulR, b_fdiv, b_mod, b_pow, b_addT, b_addL, addL_ok, b_repT, k_lt, k_le, k_gt, k_ge, k_eq, k_ne, k_isN, k_notN, k_in, k_nin, tr_str, q_int, q_bl, q_str, ofB_some, Option.map_some, tr_bl, tr_int, tr_non, tr_tup, tr_loc, trK_ok, td_bl, td_int, td_tup, i_tup, i_rls, i_loc, idxL_ok, okV_some, at0, at1, at2, at3, at_m1, tupK_ok, lstK_ok, negK_int, p_abs, p_int, p_intB, p_lenT, p_lenR, p_lenL, lenL_ok, p_max, p_min, p_tupT, p_tupL, tupL_ok, p_lstT, p_lstL, lstL_ok, isD_ok, m_app, appL_ok, m_pop, popL_ok, m_rev, revL_ok, recv_ok, recvL_ok, set_loc, setL_ok, setI_ok, new_eq, Bool.not_true, Bool.not_false, if_true, eq_self, decide_true, decide_false,
  List.set_cons_zero, List.set_cons_succ, List.getElem?_cons_zero, List.getElem?_cons_succ, List.length_cons, List.length_nil, Option.some.injEq])
local macro_rules | `(tactic| walk_at "ev*") => `(tactic| simp (config := { maxSteps := 3000000 }) (disch := first | assumption | omega | exact ⟨by omega, by omega⟩ | exact ⟨⟨by omega, by omega⟩, ⟨by omega, by omega⟩⟩ | exact Nat.le_of_ble_eq_true rfl | decide) only [bnd_ok, bnd_bad, binJ_eq, binK_eq, notK_eq, cmpJ_eq, cmpK_eq, idxJ_eq, idxK_eq, calJ_eq, clkJ_eq, clkK_eq, priJ_eq, isiJ_eq, metJ_eq, metI_t, metK_eq, lcJ_eq, lcK_eq, conJ_eq, conK_eq, andJ_eq, orJ_eq, rg2J_eq, nxtK_eq, setI1_eq, setI2_eq, setI3_eq, retK_eq,  vE_var, varK_ok, vE_int, vE_bl, vE_non, vE_str, vE_tup, vE_lst, vE_bin, vE_neg, vE_not, vE_and, vE_or, vE_cmp, vE_ite, brE_t, brE_f, vE_idx, vE_slc, vE_call, vE_callk, vE_prim, vE_isin, vE_meth, vE_lc, vE_gcon, toD_int, toD_strs, vE_chain, chnI_eq, chnK_eq, chnJ_t, chnJ_f, vE_tupG, tgJ_eq, tgK_eq, vE_qual, qlK_eq, vE_sumG, smK_eq, vE_lc2, l2K_eq, vEs_nil, vEs_cons, vA_one, vA_cons, vO_one, vO_cons, andK_t, andK_f, orK_t, orK_f, vT_nil, vT_cons, vI_seq, seqK_tup, seqK_rls, seqK_loc, seqL_ok, vI_range1, rg1_int, vI_range2, rg2_int,
  xS_asg, asgK_nm, asgT_nm, asgT_tp2, asgT_tp3, asgK_tp2, asgK_tp3, xS_par, parK_2, parK_3, xS_setS, xS_aug, augV_ok, augK_add, augK_sub, xS_augS, agR_some, agD_eq, agX_eq, agI_eq, agO_eq, idxM_loc, augD_add, augD_sub, xS_expr, xS_ret, xS_retN, xS_ite, brS_t, brS_f, xS_wh, whB_t, whB_f, whK_n, whK_c, whK_b, whK_r, xS_fo, foT_some, foK_n, foK_c, foK_b, foK_r, xS_brk, xS_cont, xS_pass, xSs_nil, xSs_cons, sqK_n, sqK_r, sqK_b, sqK_c,
  b_add, b_sub, b_mul, b_mulL, b_mulR, b_fdiv, b_mod, b_pow, b_addT, b_addL, addL_ok, b_repT, k_lt, k_le, k_gt, k_ge, k_eq, k_ne, k_isN, k_notN, k_in, k_nin, tr_str, q_int, q_bl, q_str, ofB_some, Option.map_some, tr_bl, tr_int, tr_non, tr_tup, tr_loc, trK_ok, td_bl, td_int, td_tup, i_tup, i_rls, i_loc, idxL_ok, okV_some, at0, at1, at2, at3, at_m1, tupK_ok, lstK_ok, negK_int, p_abs, p_int, p_intB, p_lenT, p_lenR, p_lenL, lenL_ok, p_max, p_min, p_tupT, p_tupL, tupL_ok, p_lstT, p_lstL, lstL_ok, isD_ok, m_app, appL_ok, m_pop, popL_ok, m_rev, revL_ok, recv_ok, recvL_ok, set_loc, setL_ok, setI_ok, new_eq, Bool.not_true, Bool.not_false, if_true, eq_self, decide_true, decide_false,
  List.set_cons_zero, List.set_cons_succ, List.getElem?_cons_zero, List.getElem?_cons_succ, List.length_cons, List.length_nil, Option.some.injEq, *])
local macro_rules | `(tactic| walk_at "evs") => `(tactic| simp (config := { maxSteps := 3000000 }) (disch := first | assumption | omega | exact ⟨by omega, by omega⟩ | exact ⟨⟨by omega, by omega⟩, ⟨by omega, by omega⟩⟩ | exact Nat.le_of_ble_eq_true rfl | decide) only [bnd_ok, bnd_bad, binJ_eq, binK_eq, notK_eq, cmpJ_eq, cmpK_eq, idxJ_eq, idxK_eq, calJ_eq, clkJ_eq, clkK_eq, priJ_eq, isiJ_eq, metJ_eq, metI_t, metK_eq, lcJ_eq, lcK_eq, conJ_eq, conK_eq, andJ_eq, orJ_eq, rg2J_eq, nxtK_eq, setI1_eq, setI2_eq, setI3_eq, retK_eq,  vE_var, varK_ok, vE_int, vE_bl, vE_non, vE_str, vE_tup, vE_lst, vE_bin, vE_neg, vE_not, vE_and, vE_or, vE_cmp, vE_ite, brE_t, brE_f, vE_idx, vE_slc, vE_call, vE_callk, vE_prim, vE_isin, vE_meth, vE_lc, vE_gcon, toD_int, toD_strs, vE_chain, chnI_eq, chnK_eq, chnJ_t, chnJ_f, vE_tupG, tgJ_eq, tgK_eq, vE_qual, qlK_eq, vE_sumG, smK_eq, vE_lc2, l2K_eq, vEs_nil, vEs_cons, vA_one, vA_cons, vO_one, vO_cons, andK_t, andK_f, orK_t, orK_f, vT_nil, vT_cons, vI_seq, seqK_tup, seqK_rls, seqK_loc, seqL_ok, vI_range1, rg1_int, vI_range2, rg2_int,
  xS_asg, asgK_nm, asgT_nm, asgT_tp2, asgT_tp3, asgK_tp2, asgK_tp3, xS_par, parK_2, parK_3, xS_setS, xS_aug, augV_ok, augK_add, augK_sub, xS_augS, agR_some, agD_eq, agX_eq, agI_eq, agO_eq, idxM_loc, augD_add, augD_sub, xS_expr, xS_ret, xS_retN, xS_ite, brS_t, brS_f, xS_wh, whB_t, whB_f, whK_n, whK_c, whK_b, whK_r, xS_fo, foT_some, foK_n, foK_c, foK_b, foK_r, xS_brk, xS_cont, xS_pass, xSs_nil, xSs_cons, sqK_n, sqK_r, sqK_b, sqK_c,
  b_add, b_sub, b_mul, b_mulL, b_mulR, b_fdiv, b_mod, b_pow, b_addT, b_addL, addL_ok, b_repT, k_lt, k_le, k_gt, k_ge, k_eq, k_ne, k_isN, k_notN, k_in, k_nin, tr_str, q_int, q_bl, q_str, ofB_some, Option.map_some, tr_bl, tr_int, tr_non, tr_tup, tr_loc, trK_ok, td_bl, td_int, td_tup, i_tup, i_rls, i_loc, idxL_ok, okV_some, at0, at1, at2, at3, at_m1, tupK_ok, lstK_ok, negK_int, p_abs, p_int, p_intB, p_lenT, p_lenR, p_lenL, lenL_ok, p_max, p_min, p_tupT, p_tupL, tupL_ok, p_lstT, p_lstL, lstL_ok, isD_ok, m_app, appL_ok, m_pop, popL_ok, m_rev, revL_ok, recv_ok, recvL_ok, set_loc, setL_ok, setI_ok, new_eq, Bool.not_true, Bool.not_false, if_true, eq_self, decide_true, decide_false,
  List.set_cons_zero, List.set_cons_succ, List.getElem?_cons_zero, List.getElem?_cons_succ, List.length_cons, List.length_nil, Option.some.injEq, List.cons_append, List.nil_append, List.append_assoc, Nat.reduceAdd, st_get, st_get0, st_set, st_set0, List.length_append, Nat.add_zero, Nat.zero_add, *])

/-! ### the bag of a script that is a list -/
theorem e_bagL {P : Prg} {f : Nat} (hf : P f = some ⟨1, 4, B_bag, false⟩) (n : Nat) (ns : List Int) (hn : ns.length ≤ 1000) :
    ∃ Sb l, callN P (n + 1) f [.loc 0] [.lst (ns.map .int)] = .ok (.loc l) Sb ∧ Bag Sb l := by
  rw [callN_eq n _ _ hf rfl (Nat.le_of_ble_eq_true rfl)]
  suffices HH : ∃ Sb l env, exSs (callN P n) B_bag [some (.loc 0), none, none, none] [.lst (ns.map .int)] = .ok (.ret (.loc l), env) Sb ∧ Bag Sb l by
    obtain ⟨Sb, l, env, h, h2⟩ := HH
    exact ⟨Sb, l, end_any h rfl, h2⟩
  unfold B_bag
  let T : List Int := ns.map (fun i => (i.natAbs : Int)) ++ [7]
  have hT : ns.map (fun i => (i.natAbs : Int)) ++ [7] = T := rfl
  have hTl : T.length = ns.length + 1 := by rw [← hT, List.length_append, List.length_map]; rfl
  have L0 : LINE = 16777216 := rfl
  have l1 := lc_map (callN P n) [some (.loc 0), none, none, none] [.lst (ns.map .int)] (.nm 3) [3] (.prim .abs (.cons (.prim .int (.cons (.var 3) .nil)) .nil)) ⟨ns.map .int, some 0⟩ rfl (fun d => .int ((dInt d).natAbs : Int)) (ns.map .int) [] (by rw [List.length_map]; simp only [List.length_nil]; omega) (fun d hd => by
    obtain ⟨i, hi, rfl⟩ := List.mem_map.mp hd
    refine ⟨[some (.loc 0), none, none, some (.int i)], rfl, ?_⟩
    walk_at "ev"
    rfl)
  rw [map_dInt (fun i => (i.natAbs : Int)), List.nil_append] at l1
  have e0 : 0 < T.length := by omega
  have e0' : atI (T.map D.int) 0 = some (.int T[0]) := by
    rw [at_nat (by decide) (by rw [List.length_map]; exact e0)]
    simp
  have hlen : (List.map D.int (List.map (fun i => ((i.natAbs : Int))) ns)).length + ([D.int 7] : List D).length ≤ LINE := by rw [List.length_map, List.length_map]; simp only [List.length_cons, List.length_nil]; omega
  have hS : (List.map D.int (List.map (fun i => ((i.natAbs : Int))) ns)) ++ [D.int 7] = T.map D.int := by rw [← hT, List.map_append]; rfl
  rw [xSs_cons]
  have s1 : exS (callN P n) (.asg (.nm 1) (.bin .add (.lc (.prim .abs (.cons (.prim .int (.cons (.var 3) .nil)) .nil)) (.nm 3) (.seq (.var 0)) .nil [3]) (.lst (.cons (.cint 7) .nil)))) [some (.loc 0), none, none, none] [.lst (ns.map .int)]
      = .ok (.next, [some (.loc 0), some (.loc 3), none, none]) [.lst (ns.map .int), .lst ((ns.map (fun i => (i.natAbs : Int))).map D.int), .lst [.int 7], .lst (T.map D.int)] := by
    walk_at "ev"
    rw [l1]
    walk_at "ev"
    show (addL _ (some (.lst _)) (some (.lst _))).bnd _ = _
    rw [addL_ok _ hlen, hS]
    rfl
  rw [s1, bnd_ok, sqK_n]
  generalize (ns.map (fun i => (i.natAbs : Int))) = A0
  clear s1 l1 hlen hS hT
  -- the rests
  have l3 : ∀ (S : Store) (env : Env) (w : Walk), w.here S → (∀ i : Int, asgT (.nm 3) (.int i) S (wipeE env [3]) = some (env.set 3 (some (.int i)))) → env.length = 4 → lcS (callN P n) env (.nm 3) [3] .nil (.bin .mod (.prim .int (.cons (.var 3) .nil)) (.cint 2147483647)) w (T.map D.int) [] S = .ok ((T.map (· % 2147483647)).map D.int) S := by
    intro S env w hw hq hle
    have := lc_map (callN P n) env S (.nm 3) [3] (.bin .mod (.prim .int (.cons (.var 3) .nil)) (.cint 2147483647)) w hw (fun d => .int (dInt d % 2147483647)) (T.map .int) [] (by rw [List.length_map]; simp only [List.length_nil]; omega) (fun d hd => by
      obtain ⟨i, hi, rfl⟩ := List.mem_map.mp hd
      refine ⟨_, hq i, ?_⟩
      have e3 : (env.set 3 (some (D.int i)))[3]? = some (some (.int i)) := List.getElem?_set_self (by omega)
      walk_at "ev*"
      rfl)
    rw [map_dInt (fun i => i % 2147483647), List.nil_append] at this
    exact this
  have l2 : ∀ (S : Store) (env : Env) (w : Walk), w.here S → (∀ i : Int, asgT (.nm 3) (.int i) S (wipeE env [3]) = some (env.set 3 (some (.int i)))) → env.length = 4 → lcS (callN P n) env (.nm 3) [3] (.cons (.cmp .ge (.var 3) (.bin .pow (.cint 10) (.cint 18))) .nil) (.bin .fdiv (.var 3) (.cint 2)) w (T.map D.int) [] S = .ok (((T.filter fun i => decide (10 ^ 18 ≤ i)).map (· / 2)).map D.int) S := by
    intro S env w hw hq hle
    have := lc_filt (callN P n) env S (.nm 3) [3] (.cmp .ge (.var 3) (.bin .pow (.cint 10) (.cint 18))) (.bin .fdiv (.var 3) (.cint 2)) w hw (fun d => decide (10 ^ 18 ≤ dInt d)) (fun d => .int (dInt d / 2)) (T.map .int) [] (by rw [List.length_map]; simp only [List.length_nil]; omega) (fun d hd => by
      obtain ⟨i, hi, rfl⟩ := List.mem_map.mp hd
      have e3 : (env.set 3 (some (D.int i)))[3]? = some (some (.int i)) := List.getElem?_set_self (by omega)
      have c1 : CPow 10 18 := ⟨by decide, by decide, by decide⟩
      have c2 : CDivW i 2 := wide_div (b := 8) (by decide) (by decide) (by decide) (by decide)
      refine ⟨_, hq i, ?_, fun _ => ?_⟩
      · walk_at "ev*"
        rfl
      · walk_at "ev*"
        rfl)
    rw [filter_ints (fun i => decide (10 ^ 18 ≤ i)) _ (fun i => rfl), map_dInt (fun i => i / 2), List.nil_append] at this
    exact this
  have hCne : T.map (· % 2147483647) ≠ [] := fun z => by
    have := congrArg List.length z
    rw [List.length_map] at this
    simp only [List.length_nil] at this
    omega
  generalize (T.map (· % 2147483647)) = C at l3 hCne
  generalize ((T.filter fun i => decide (10 ^ 18 ≤ i)).map (· / 2)) = G at l2
  by_cases hev : T[0] % 2 = 0
  · refine ⟨[.lst (ns.map .int), .lst (A0.map .int), .lst [.int 7], .lst (T.map D.int), .lst [], .lst (G.reverse.map .int), .lst (C.map .int), .lst [.int 0, .int 0, .loc 5, .loc 6]], 7, [some (.loc 0), some (.loc 3), some (.loc 5), none], ?_, ⟨5, 6, 0, 0, G.reverse, C, rfl, rfl, rfl, hCne, by decide, by decide, by decide⟩, ?_⟩
    · have q2 := l2 [.lst (ns.map .int), .lst (A0.map .int), .lst [.int 7], .lst (T.map D.int), .lst []] [some (.loc 0), some (.loc 3), some (.loc 4), none] ⟨T.map .int, some 3⟩ rfl (fun i => rfl) rfl
      have q3 := l3 [.lst (ns.map .int), .lst (A0.map .int), .lst [.int 7], .lst (T.map D.int), .lst [], .lst (G.reverse.map .int)] [some (.loc 0), some (.loc 3), some (.loc 5), none] ⟨T.map .int, some 3⟩ rfl (fun i => rfl) rfl
      have q4 := rev_ints G
      walk_at "evs"
    · intro j o hj
      rcases j with _ | _ | _ | _ | _ | _ | _ | _ | j
      all_goals first
        | (simp only [List.getElem?_cons_zero, List.getElem?_cons_succ, Option.some.injEq] at hj; subst hj; first | exact clDs_ints _ _ | rfl)
        | (simp only [List.getElem?_cons_zero, List.getElem?_cons_succ, List.getElem?_nil] at hj; cases hj)
  · refine ⟨[.lst (ns.map .int), .lst (A0.map .int), .lst [.int 7], .lst (T.map D.int), .lst [], .lst (C.map .int), .lst [.int 0, .int 0, .loc 4, .loc 5]], 6, [some (.loc 0), some (.loc 3), some (.loc 4), none], ?_, ⟨4, 5, 0, 0, [], C, rfl, rfl, rfl, hCne, by decide, by decide, by decide⟩, ?_⟩
    · have q3 := l3 [.lst (ns.map .int), .lst (A0.map .int), .lst [.int 7], .lst (T.map D.int), .lst []] [some (.loc 0), some (.loc 3), some (.loc 4), none] ⟨T.map .int, some 3⟩ rfl (fun i => rfl) rfl
      walk_at "evs"
    · intro j o hj
      rcases j with _ | _ | _ | _ | _ | _ | _ | j
      all_goals first
        | (simp only [List.getElem?_cons_zero, List.getElem?_cons_succ, Option.some.injEq] at hj; subst hj; first | exact clDs_ints _ _ | rfl)
        | (simp only [List.getElem?_cons_zero, List.getElem?_cons_succ, List.getElem?_nil] at hj; cases hj)


/-! ### list comprehensions with two clauses -/
theorem l2_map (F : Fns) (env : Env) (S : Store) (t : Tg) (own : List Nat) (t1 : Tg) (it1 : It) (own1 : List Nat) (elt : E) (w : Walk) (hw : w.here S) (inn : D → List D) (g : D → D → D) : ∀ (items acc : List D), acc.length + (items.flatMap inn).length < LINE →
    (∀ d ∈ items, ∃ env1 w1, asgT t d S (wipeE env own) = some env1 ∧ evIt F it1 env1 S = .ok w1 S ∧ w1.items = inn d ∧ w1.here S ∧ ∀ e ∈ inn d, ∃ env2, asgT t1 e S (wipeE env1 own1) = some env2 ∧ evE F elt env2 S = .ok (g d e) S) →
    l2S F env t own .nil t1 it1 .nil own1 elt w items acc S = .ok (acc ++ items.flatMap fun d => (inn d).map (g d)) S
  | [], acc, _, _ => by rw [l2_nil _ _ _ _ _ _ _ _ _ _ _ _ _ hw, List.flatMap_nil, List.append_nil]
  | d :: ds, acc, hl, h => by
    obtain ⟨env1, w1, e1, e2, e3, e4, e5⟩ := h d (List.mem_cons_self ..)
    rw [List.flatMap_cons, List.length_append] at hl
    rw [l2_cons _ _ _ _ _ _ _ _ _ _ _ _ _ _ _ hw, e1]
    unfold l2T
    dsimp only
    rw [vT_nil, bnd_ok]
    unfold l2B
    rw [if_pos rfl]
    have i : l2I F t1 it1 .nil own1 elt env1 acc S = .ok (acc ++ (inn d).map (g d)) S := by
      unfold l2I
      rw [e2, bnd_ok, e3]
      exact lc_map F env1 S t1 own1 elt w1 e4 (g d) (inn d) acc (by omega) e5
    rw [i, bnd_ok, l2_map F env S t own t1 it1 own1 elt w hw inn g ds (acc ++ (inn d).map (g d)) (by rw [List.length_append, List.length_map]; omega) (fun x hx => h x (List.mem_cons_of_mem _ hx))]
    rw [List.flatMap_cons, List.append_assoc]
theorem pick_x {P : Prg} {f : Nat} (hd : PickOk P f) (N : Nat) (hN : 2 ≤ N) (l : Nat) (ds : List D) (Sb G : Store) (hB : Bag Sb l) (h0 : ds ≠ []) (h1 : ds.length ≤ 1000) :
    ∃ d Sb', callN P N f [.loc l, .loc (Sb ++ G).length] (Sb ++ G ++ [.lst ds]) = .ok d (Sb' ++ (G ++ [.lst ds])) ∧ d ∈ ds ∧ Bag Sb' l ∧ Sb'.length = Sb.length := by
  obtain ⟨n, rfl⟩ : ∃ n, N = n + 2 := ⟨N - 2, by omega⟩
  obtain ⟨d, Sb', a, b, c⟩ := hd n Sb (G ++ [.lst ds]) l G.length ds hB (by rw [List.getElem?_append_right (Nat.le_refl _), Nat.sub_self]; rfl) h0 (by omega)
  refine ⟨d, Sb', ?_, b, c⟩
  rw [List.length_append, List.append_assoc]
  exact a
theorem pick_at {P : Prg} {f : Nat} (hd : PickOk P f) (N : Nat) (hN : 2 ≤ N) (l j : Nat) (ds : List D) (Sb G : Store) (hB : Bag Sb l) (hj : Sb.length ≤ j) (hx : (Sb ++ G)[j]? = some (.lst ds)) (h0 : ds ≠ []) (h1 : ds.length < 2 ^ 60) :
    ∃ d Sb', callN P N f [.loc l, .loc j] (Sb ++ G) = .ok d (Sb' ++ G) ∧ d ∈ ds ∧ Bag Sb' l ∧ Sb'.length = Sb.length := by
  obtain ⟨n, rfl⟩ : ∃ n, N = n + 2 := ⟨N - 2, by omega⟩
  obtain ⟨k, rfl⟩ : ∃ k, j = Sb.length + k := ⟨j - Sb.length, by omega⟩
  rw [st_get] at hx
  exact hd n Sb G l k ds hB hx h0 h1
/-! ### in -/
def rdP (r : Rd) : PyData := .tuple [.int r.lo, .int r.hi, .int r.low, .int r.high]
theorem py_rds : ∀ rs : List Rd, pyDs (rs.map rdD) = some (rs.map rdP)
  | [] => rfl
  | r :: rs => by
    rw [List.map_cons, pyDs, py_rds rs]
    rfl
theorem eqv_rd (a b : Rd) : PyData.eqv (rdP a) (rdP b) = decide (a = b) := by
  obtain ⟨a1, a2, a3, a4⟩ := a
  obtain ⟨b1, b2, b3, b4⟩ := b
  unfold rdP
  simp only [PyData.eqv, PyData.eqvAll, Rd.mk.injEq, Bool.and_true]
  by_cases h1 : a1 = b1 <;> by_cases h2 : a2 = b2 <;> by_cases h3 : a3 = b3 <;> by_cases h4 : a4 = b4 <;> simp [h1, h2, h3, h4]
theorem lay_rds : ∀ rs : List Rd, PyData.canLayAll0 (rs.map rdP) = true
  | [] => rfl
  | r :: rs => by
    rw [List.map_cons, PyData.canLayAll0, lay_rds rs]
    rfl
theorem dep_rds : ∀ rs : List Rd, PyData.depthAll (rs.map rdP) ≤ 2
  | [] => by rw [List.map_nil, PyData.depthAll]; omega
  | r :: rs => by
    have := dep_rds rs
    have h2 : PyData.depth (rdP r) ≤ 2 := by unfold rdP; simp [PyData.depth, PyData.depthAll]
    rw [List.map_cons, PyData.depthAll]
    omega
theorem in_rds (r : Rd) (rs : List Rd) (S : Store) : inD (rdD r) (.tup (rs.map rdD)) S = some (decide (r ∈ rs)) := by
  unfold inD
  have e1 : pyT (rdD r) S = some (rdP r) := rfl
  have e2 : pyT (.tup (rs.map rdD)) S = some (.tuple (rs.map rdP)) := by
    show (pyDs (rs.map rdD)).map PyData.tuple = _
    rw [py_rds]
    rfl
  rw [e1, e2]
  dsimp only
  have s1 : SeqAt.shaped (rdP r) = true := by
    unfold SeqAt.shaped rdP
    simp [PyData.canLay0, PyData.canLayAll0, PyData.depth, PyData.depthAll]
  have s2 : SeqAt.shaped (.tuple (rs.map rdP)) = true := by
    unfold SeqAt.shaped
    have h1 := dep_rds rs
    have h2 := lay_rds rs
    have h3 : PyData.canLay0 (.tuple (rs.map rdP)) = true := by rw [PyData.canLay0]; exact h2
    have h4 : PyData.depth (.tuple (rs.map rdP)) ≤ 64 := by rw [PyData.depth]; omega
    rw [h3, decide_eq_true h4]
    rfl
  rw [if_pos ⟨s1, s2⟩]
  congr 1
  rw [List.any_map]
  apply Bool.eq_iff_iff.mpr
  rw [List.any_eq_true, decide_eq_true_eq]
  constructor
  · rintro ⟨x, hx, he⟩
    have : PyData.eqv (rdP x) (rdP r) = true := he
    rw [eqv_rd, decide_eq_true_eq] at this
    exact this ▸ hx
  · intro h
    exact ⟨r, h, by show PyData.eqv (rdP r) (rdP r) = true; rw [eqv_rd]; simp⟩
end
end SX
namespace SX
open PySem PySem.Spec PyProof.Rows L2
noncomputable section
open Classical
/-! ### what a mended book is -/
theorem lp_ge (g T : Int) : ∀ (n : Nat) (x : Int), x ≤ lpF g T n x
  | 0, x => Int.le_refl _
  | n + 1, x => by
    rw [lpF]
    split
    · have := lp_ge g T n (x + 1); omega
    · exact Int.le_refl _
theorem lp_stop (g T : Int) : ∀ (n : Nat) (x : Int), 1001 - x ≤ n → ¬ (lpF g T n x ≤ 1000 ∧ lpF g T n x + max g (2 * lpF g T n x) < T)
  | 0, x, h => by rw [lpF]; omega
  | n + 1, x, h => by
    rw [lpF]
    split
    · exact lp_stop g T n (x + 1) (by omega)
    · assumption
theorem lp_pred (g T : Int) : ∀ (n : Nat) (x : Int), x < lpF g T n x → (lpF g T n x - 1) + max g (2 * (lpF g T n x - 1)) < T
  | 0, x, h => by rw [lpF] at h; omega
  | n + 1, x, h => by
    rw [lpF] at h ⊢
    split
    · rename_i c
      rw [if_pos c] at h
      by_cases e : lpF g T n (x + 1) = x + 1
      · rw [e]
        have := c.2
        have e2 : x + 1 - 1 = x := by omega
        rw [e2]
        exact this
      · exact lp_pred g T n (x + 1) (by have := lp_ge g T n (x + 1); omega)
    · rename_i c
      rw [if_neg c] at h
      omega
theorem kL_ge (b : Bk) (r : Rd) : ∀ (u : Nat) (k : Int), k ≤ kL b r u k
  | 0, k => Int.le_refl _
  | u + 1, k => by
    rw [kL]
    split
    · have := kL_ge b r u (k + 1); omega
    · exact Int.le_refl _
theorem kL_stop (b : Bk) (r : Rd) : ∀ (u : Nat) (k : Int), (10 - k).toNat ≤ u → ¬ (kL b r u k ≤ 9 ∧ faultF { b with k := kL b r u k } r = PySem.Str.ofString "number")
  | 0, k, h => by rw [kL]; omega
  | u + 1, k, h => by
    rw [kL]
    split
    · exact kL_stop b r u (k + 1) (by omega)
    · assumption
theorem kL_pred (b : Bk) (r : Rd) : ∀ (u : Nat) (k : Int), k < kL b r u k → faultF { b with k := kL b r u k - 1 } r = PySem.Str.ofString "number"
  | 0, k, h => by rw [kL] at h; omega
  | u + 1, k, h => by
    rw [kL] at h ⊢
    split
    · rename_i c
      rw [if_pos c] at h
      by_cases e : kL b r u (k + 1) = k + 1
      · rw [e]
        have e2 : k + 1 - 1 = k := by omega
        rw [e2]
        exact c.2
      · exact kL_pred b r u (k + 1) (by have := kL_ge b r u (k + 1); omega)
    · rename_i c
      rw [if_neg c] at h
      omega
theorem thL_some {b : Bk} {r : Rd} : ∀ {n : Nat} {e : Int} {m : Bk}, thL b r n e = some m → ∃ e' : Int, e ≤ e' ∧ e' ≤ 72 ∧ m = { b with th := lowF e' 8 } ∧ timedF m r = true
  | 0, e, m, h => by cases h
  | n + 1, e, m, h => by
    rw [thL] at h
    split at h
    · rename_i h2
      split at h
      · rename_i c
        cases h
        exact ⟨e, Int.le_refl _, h2, rfl, c⟩
      · obtain ⟨e', a, q⟩ := thL_some h
        exact ⟨e', by omega, q⟩
    · cases h
theorem fault_on {b : Bk} {r : Rd} (h1 : ¬ b.fi + max b.gr (2 * b.fi) < r.T) (h2 : ¬ r.L + b.gr < r.T) : faultF b r = if b.ru = PySem.Str.ofString "guess" then
    (if 1 < b.mo ∧ lastI (sprL b.ga b.mo r.L b.k.toNat) < r.W then PySem.Str.ofString "number" else if timedF b r = true then PySem.Str.ofString "" else PySem.Str.ofString "time") else PySem.Str.ofString "" := by
  unfold faultF
  rw [if_neg h1, if_neg h2]
theorem number_iff {b : Bk} {r : Rd} (h1 : ¬ b.fi + max b.gr (2 * b.fi) < r.T) (h2 : ¬ r.L + b.gr < r.T) (hg : b.ru = PySem.Str.ofString "guess") : faultF b r = PySem.Str.ofString "number" ↔ (1 < b.mo ∧ lastI (sprL b.ga b.mo r.L b.k.toNat) < r.W) := by
  rw [fault_on h1 h2, if_pos hg]
  constructor
  · intro h
    split at h
    · assumption
    · split at h
      · exact absurd h (by decide)
      · exact absurd h (by decide)
  · intro h
    rw [if_pos h]
structure MendR (b : Bk) (r : Rd) (m : Bk) : Prop where
  ex : ∃ (g x k : Int) (t : Fr), m = { b with gr := g, fi := x, k := k, th := t } ∧ g = max b.gr (r.T - r.L) ∧ g ≤ 1000 ∧ b.fi ≤ x ∧ x ≤ 1000 ∧ ¬ x + max g (2 * x) < r.T ∧ (b.fi < x → (x - 1) + max g (2 * (x - 1)) < r.T) ∧ b.k ≤ k ∧
    (b.ru ≠ PySem.Str.ofString "guess" → k = b.k) ∧ (b.ru = PySem.Str.ofString "guess" → k ≤ 9 ∧ ¬ (1 < b.mo ∧ lastI (sprL b.ga b.mo r.L k.toNat) < r.W) ∧ timedF m r = true) ∧
    (b.k < k → b.ru = PySem.Str.ofString "guess" ∧ 1 < b.mo ∧ lastI (sprL b.ga b.mo r.L (k - 1).toNat) < r.W) ∧ Ti t ∧ 0 < t.1
theorem mend_r {b m : Bk} {r : Rd} (hb : BkOk b) (h : mendF b r = some m) : MendR b r m := by
  unfold mendF at h
  cases hw : wtF b r with
  | none => rw [hw] at h; cases h
  | some m1 =>
    rw [hw] at h
    dsimp only at h
    obtain ⟨g, hg⟩ : ∃ g, g = max b.gr (r.T - r.L) := ⟨_, rfl⟩
    obtain ⟨x, hx⟩ : ∃ x, x = lpF g r.T 1001 b.fi := ⟨_, rfl⟩
    have hw' := hw
    unfold wtF at hw'
    dsimp only at hw'
    rw [← hg, ← hx] at hw'
    split at hw'
    · cases hw'
    · rename_i c
      cases hw'
      have g1 : g ≤ 1000 := by omega
      have x1 : x ≤ 1000 := by omega
      have x0 : b.fi ≤ x := by rw [hx]; exact lp_ge ..
      have f1 : ¬ x + max g (2 * x) < r.T := by
        have := lp_stop g r.T 1001 b.fi (by have := hb.fi; omega)
        rw [← hx] at this
        omega
      have f2 : ¬ r.L + g < r.T := by omega
      have xp : b.fi < x → (x - 1) + max g (2 * (x - 1)) < r.T := by
        intro z
        have := lp_pred g r.T 1001 b.fi (by rw [← hx]; exact z)
        rw [← hx] at this
        exact this
      by_cases hru : b.ru = PySem.Str.ofString "guess"
      · rw [if_pos hru] at h
        obtain ⟨k, hk⟩ : ∃ k, k = kL { b with gr := g, fi := x } r 10 b.k := ⟨_, rfl⟩
        have k0 : b.k ≤ k := by rw [hk]; exact kL_ge ..
        have ks := kL_stop { b with gr := g, fi := x } r 10 b.k (by have := hb.k; omega)
        have kp : b.k < k → faultF { b with gr := g, fi := x, k := k - 1 } r = PySem.Str.ofString "number" := fun z => by
          have := kL_pred { b with gr := g, fi := x } r 10 b.k (by rw [← hk]; exact z)
          rw [← hk] at this
          exact this
        have h : (if k > 9 then none else thF { b with gr := g, fi := x, k := k } r) = some m := by rw [hk]; exact h
        have ks : ¬ (k ≤ 9 ∧ faultF { b with gr := g, fi := x, k := k } r = PySem.Str.ofString "number") := by rw [hk]; exact ks
        clear hk
        split at h
        · cases h
        · rename_i c9
          have nn : ¬ (1 < b.mo ∧ lastI (sprL b.ga b.mo r.L k.toNat) < r.W) := fun z => ks ⟨by omega, (number_iff (b := { b with gr := g, fi := x, k := k }) f1 f2 hru).mpr z⟩
          have pp : b.k < k → b.ru = PySem.Str.ofString "guess" ∧ 1 < b.mo ∧ lastI (sprL b.ga b.mo r.L (k - 1).toNat) < r.W := fun z => ⟨hru, (number_iff (b := { b with gr := g, fi := x, k := k - 1 }) f1 f2 hru).mp (kp z)⟩
          unfold thF at h
          split at h
          · rename_i ht
            cases h
            exact ⟨g, x, k, b.th, rfl, hg, g1, x0, x1, f1, xp, k0, fun z => absurd hru z, fun _ => ⟨by omega, nn, ht⟩, pp, hb.th, hb.thp⟩
          · obtain ⟨e', e1, e2, rfl, ht⟩ := thL_some h
            have u8 : 1 ≤ upF (timesF b.th (8, 1)) := (th8 hb).2
            have e1 : upF (timesF b.th (8, 1)) ≤ e' := e1
            exact ⟨g, x, k, lowF e' 8, rfl, hg, g1, x0, x1, f1, xp, k0, fun z => absurd hru z, fun _ => ⟨by omega, nn, ht⟩, pp, ti_low (by decide) (by decide) (by omega), low_pos (by omega)⟩
      · rw [if_neg hru] at h
        cases h
        exact ⟨g, x, b.k, b.th, rfl, hg, g1, x0, x1, f1, xp, Int.le_refl _, fun _ => rfl, fun z => absurd z hru, fun z => absurd z (by omega), hb.th, hb.thp⟩
theorem MendR.good {b m : Bk} {r : Rd} (hb : BkOk b) (h : MendR b r m) : BkOk m ∧ m.mo = b.mo ∧ faultF m r = PySem.Str.ofString "" := by
  obtain ⟨g, x, k, t, rfl, hg, g1, x0, x1, f1, xp, k0, kn, kg, kp, t1, t2⟩ := h.ex
  have f2 : ¬ r.L + g < r.T := by omega
  refine ⟨⟨⟨by show 1 ≤ k; have := hb.k; omega, ?_⟩, t1, t2, ⟨by show 1 ≤ g; have := hb.gr; omega, by show g ≤ 10000; omega⟩, ⟨by show 1 ≤ x; have := hb.fi; omega, by show x ≤ 10000; omega⟩, hb.ga, hb.st, hb.mo, hb.wa⟩, rfl, ?_⟩
  · show k ≤ 100
    by_cases hru : b.ru = PySem.Str.ofString "guess"
    · have := (kg hru).1; omega
    · rw [kn hru]; exact hb.k.2
  · rw [fault_on (b := { b with gr := g, fi := x, k := k, th := t }) f1 f2]
    show (if b.ru = _ then (if (1 < b.mo ∧ lastI (sprL b.ga b.mo r.L k.toNat) < r.W) then _ else _) else _) = _
    by_cases hru : b.ru = PySem.Str.ofString "guess"
    · rw [if_pos hru, if_neg (kg hru).2.1, if_pos (kg hru).2.2]
    · rw [if_neg hru]
theorem ne_first : PySem.Str.ofString "first" ≠ PySem.Str.ofString "" := by decide
theorem ne_timer : PySem.Str.ofString "timer" ≠ PySem.Str.ofString "" := by decide
theorem ne_number : PySem.Str.ofString "number" ≠ PySem.Str.ofString "" := by decide
theorem less_gr {b m : Bk} {r : Rd} (hb : BkOk b) (h : MendR b r m) (c : b.gr < m.gr) : BkOk { m with gr := m.gr - 1 } ∧ faultF { m with gr := m.gr - 1 } r ≠ PySem.Str.ofString "" := by
  have good := (h.good hb).1
  obtain ⟨g, x, k, t, rfl, hg, g1, x0, x1, f1, xp, k0, kn, kg, kp, t1, t2⟩ := h.ex
  have c : b.gr < g := c
  refine ⟨⟨good.k, t1, t2, ⟨by show 1 ≤ g - 1; have := hb.gr; omega, by show g - 1 ≤ 10000; omega⟩, good.fi, good.ga, good.st, good.mo, good.wa⟩, ?_⟩
  unfold faultF
  split
  · exact ne_first
  · rw [if_pos (by show r.L + (g - 1) < r.T; omega)]
    exact ne_timer
theorem less_fi {b m : Bk} {r : Rd} (hb : BkOk b) (h : MendR b r m) (c : b.fi < m.fi) : BkOk { m with fi := m.fi - 1 } ∧ faultF { m with fi := m.fi - 1 } r ≠ PySem.Str.ofString "" := by
  have good := (h.good hb).1
  obtain ⟨g, x, k, t, rfl, hg, g1, x0, x1, f1, xp, k0, kn, kg, kp, t1, t2⟩ := h.ex
  have c : b.fi < x := c
  refine ⟨⟨good.k, t1, t2, good.gr, ⟨by show 1 ≤ x - 1; have := hb.fi; omega, by show x - 1 ≤ 10000; omega⟩, good.ga, good.st, good.mo, good.wa⟩, ?_⟩
  unfold faultF
  rw [if_pos (show (x - 1) + max g (2 * (x - 1)) < r.T from xp c)]
  exact ne_first
theorem less_k {b m : Bk} {r : Rd} (hb : BkOk b) (h : MendR b r m) (c : b.k < m.k) : BkOk { m with k := m.k - 1 } ∧ faultF { m with k := m.k - 1 } r ≠ PySem.Str.ofString "" := by
  have good := (h.good hb).1
  obtain ⟨g, x, k, t, rfl, hg, g1, x0, x1, f1, xp, k0, kn, kg, kp, t1, t2⟩ := h.ex
  have c : b.k < k := c
  have gk : k ≤ 100 := good.k.2
  refine ⟨⟨⟨by show 1 ≤ k - 1; have := hb.k; omega, by show k - 1 ≤ 100; omega⟩, t1, t2, good.gr, good.fi, good.ga, good.st, good.mo, good.wa⟩, ?_⟩
  obtain ⟨hru, q⟩ := kp c
  have f2 : ¬ r.L + g < r.T := by omega
  have := (number_iff (b := { b with gr := g, fi := x, k := k - 1, th := t }) f1 f2 hru).mpr q
  intro z
  exact ne_number (this.symm.trans z)
/-- what has no fault stays -/
theorem mend_self {b : Bk} {r : Rd} (hb : BkOk b) (hg : b.gr ≤ 1000) (hf : b.fi ≤ 1000) (hk : b.k ≤ 9) (h : faultF b r = PySem.Str.ofString "") : mendF b r = some b := by
  have n1 : ¬ b.fi + max b.gr (2 * b.fi) < r.T := fun z => by
    unfold faultF at h
    rw [if_pos z] at h
    exact ne_first h
  have n2 : ¬ r.L + b.gr < r.T := fun z => by
    unfold faultF at h
    rw [if_neg n1, if_pos z] at h
    exact ne_timer h
  have eg : max b.gr (r.T - r.L) = b.gr := by omega
  have ex : lpF b.gr r.T 1001 b.fi = b.fi := by
    show lpF b.gr r.T (1000 + 1) b.fi = b.fi
    rw [lpF, if_neg (fun z => n1 z.2)]
  have ew : wtF b r = some b := by
    unfold wtF
    dsimp only
    rw [eg, ex, if_neg (by omega)]
  have h' := h
  rw [fault_on n1 n2] at h'
  unfold mendF
  rw [ew]
  dsimp only
  by_cases hru : b.ru = PySem.Str.ofString "guess"
  · rw [if_pos hru] at h' ⊢
    have ek : kL b r 10 b.k = b.k := by
      show kL b r (9 + 1) b.k = b.k
      rw [kL, if_neg (fun z => ne_number (z.2.symm.trans h))]
    rw [ek, if_neg (by omega)]
    have ht : timedF b r = true := by
      by_cases c : 1 < b.mo ∧ lastI (sprL b.ga b.mo r.L b.k.toNat) < r.W
      · rw [if_pos c] at h'
        exact absurd h' ne_number
      · rw [if_neg c] at h'
        by_cases ct : timedF b r = true
        · exact ct
        · rw [if_neg ct] at h'
          exact absurd h' (by decide)
    show thF b r = some b
    unfold thF
    rw [if_pos ht]
  · rw [if_neg hru]
/-! ### the first eighths that will do -/
def rngZ (lo hi : Int) : List Int := (List.range (hi - lo).toNat).map fun k : Nat => lo + (k : Int)
theorem rngZ_map (lo hi : Int) : rngK lo hi = (rngZ lo hi).map .int := by
  unfold rngK rngZ
  rw [List.map_map]
  rfl
theorem rngZ_len (lo hi : Int) : (rngZ lo hi).length = (hi - lo).toNat := by unfold rngZ; simp
theorem rngZ_nil {lo hi : Int} (h : hi ≤ lo) : rngZ lo hi = [] := by
  apply List.eq_nil_of_length_eq_zero
  rw [rngZ_len]
  omega
theorem rngZ_cons {lo hi : Int} (h : lo < hi) : rngZ lo hi = lo :: rngZ (lo + 1) hi := by
  have a := rng_cons h
  rw [rngZ_map, rngZ_map, show (D.int lo :: (rngZ (lo + 1) hi).map D.int) = (lo :: rngZ (lo + 1) hi).map D.int from rfl] at a
  exact (List.map_inj_right (fun x y z => by cases z; rfl)).mp a
theorem mem_rngZ {lo hi x : Int} (h : x ∈ rngZ lo hi) : lo ≤ x ∧ x < hi := by
  unfold rngZ at h
  obtain ⟨k, hk, rfl⟩ := List.mem_map.mp h
  rw [List.mem_range] at hk
  omega
theorem filter_from (e0 : Int) (p : Int → Bool) (hi : Int) : ∀ (n : Nat) (lo : Int), (hi - lo).toNat = n → ((rngZ lo hi).filter fun k => decide (e0 ≤ k) && p k) = (rngZ (max e0 lo) hi).filter p
  | 0, lo, h => by rw [rngZ_nil (by omega), rngZ_nil (by omega)]; rfl
  | n + 1, lo, h => by
    rw [rngZ_cons (by omega), List.filter_cons]
    have ih := filter_from e0 p hi n (lo + 1) (by omega)
    by_cases c : e0 ≤ lo
    · rw [decide_eq_true c, Bool.true_and, ih, show max e0 (lo + 1) = lo + 1 by omega, show max e0 lo = lo by omega, rngZ_cons (lo := lo) (by omega), List.filter_cons]
    · rw [decide_eq_false c, Bool.false_and, ih, show max e0 (lo + 1) = e0 by omega, show max e0 lo = e0 by omega]
      rfl
def headTh (b : Bk) : List Int → Option Bk
  | [] => none
  | e :: _ => some { b with th := lowF e 8 }
theorem thL_filter (b : Bk) (r : Rd) : ∀ (n : Nat) (e : Int), 73 - e ≤ n → thL b r n e = headTh b ((rngZ e 73).filter fun k => timedF { b with th := lowF k 8 } r)
  | 0, e, h => by rw [rngZ_nil (by omega)]; rfl
  | n + 1, e, h => by
    rw [thL]
    by_cases he : e ≤ 72
    · rw [if_pos he, rngZ_cons (by omega), List.filter_cons]
      by_cases c : timedF { b with th := lowF e 8 } r = true
      · rw [if_pos c, if_pos c]
        rfl
      · rw [if_neg c, if_neg c]
        exact thL_filter b r n (e + 1) (by omega)
    · rw [if_neg he, rngZ_nil (by omega)]
      rfl
theorem le_up {p : Fr} {K : Int} (h : 0 < p.2) : upF p ≤ K ↔ p.1 ≤ K * p.2 := by
  constructor
  · intro hk
    unfold upF at hk
    have h1 : -K ≤ -p.1 / p.2 := by omega
    have h2 := (Int.le_ediv_iff_mul_le h).mp h1
    rw [Int.neg_mul] at h2
    omega
  · exact up_le h
theorem up8_le {b : Bk} (hb : BkOk b) (k : Int) : upF (timesF b.th (8, 1)) ≤ k ↔ 8 * b.th.1 ≤ k * b.th.2 := by
  have hp := hb.th.sm.pos
  have v := vq_times (vq_lit (a := b.th.1) (b := b.th.2) hp) (vq_lit (a := 8) (b := 1) (by decide))
  have h1 := v.eq
  have h2 := v.pos
  have e0 : timesF (b.th.1, b.th.2) (8, 1) = timesF b.th (8, 1) := rfl
  rw [e0] at h1 h2
  rw [le_up h2]
  generalize timesF b.th (8, 1) = z at *
  have e1 : z.1 * b.th.2 = (8 * b.th.1) * z.2 := by grind
  constructor
  · intro h
    have e2 : z.1 * b.th.2 ≤ (k * z.2) * b.th.2 := Int.mul_le_mul_of_nonneg_right h (by omega)
    have e3 : (8 * b.th.1) * z.2 ≤ (k * b.th.2) * z.2 := by
      have : (k * z.2) * b.th.2 = (k * b.th.2) * z.2 := by grind
      omega
    exact Int.le_of_mul_le_mul_right e3 h2
  · intro h
    have e2 : (8 * b.th.1) * z.2 ≤ (k * b.th.2) * z.2 := Int.mul_le_mul_of_nonneg_right h (by omega)
    have e3 : z.1 * b.th.2 ≤ (k * z.2) * b.th.2 := by
      have : (k * z.2) * b.th.2 = (k * b.th.2) * z.2 := by grind
      omega
    exact Int.le_of_mul_le_mul_right e3 hp
theorem thF_filter {b : Bk} {r : Rd} (hb : BkOk b) (h1 : b.th.2 ≤ b.th.1) : (if timedF b r = true then some b else headTh b ((rngZ 8 73).filter fun k => decide (8 * b.th.1 ≤ k * b.th.2) && timedF { b with th := lowF k 8 } r)) = thF b r := by
  unfold thF
  have u8 := (th8 hb).2
  have e8 : 8 ≤ upF (timesF b.th (8, 1)) := by
    by_cases c : 8 ≤ upF (timesF b.th (8, 1))
    · exact c
    · have := (up8_le hb 7).mp (by omega)
      have := hb.th.sm.pos
      omega
  rw [thL_filter b r 73 _ (by omega)]
  have e : (rngZ 8 73).filter (fun k => decide (8 * b.th.1 ≤ k * b.th.2) && timedF { b with th := lowF k 8 } r) = (rngZ (upF (timesF b.th (8, 1))) 73).filter fun k => timedF { b with th := lowF k 8 } r := by
    have a := filter_from (upF (timesF b.th (8, 1))) (fun k => timedF { b with th := lowF k 8 } r) 73 65 8 (by decide)
    rw [show max (upF (timesF b.th (8, 1))) 8 = upF (timesF b.th (8, 1)) by omega] at a
    rw [← a]
    congr 1
    funext k
    congr 1
    exact decide_eq_decide.mpr (up8_le hb k).symm
  rw [e]
end
end SX
namespace LW
open PySem PySem.Spec PyProof.Rows L2 SX
def topS (i : Nat) : Stmt := PySem.Challenge.pw_surecrossing_k65_whole_mended.main.body.getD i (.Pass ⟨0, 0, 0, 0⟩)
/-! ### the bodies -/
def b_divisor : Ss := .cons (.par [0, 1] (.cons (.prim .abs (.cons (.var 0) .nil)) (.cons (.prim .abs (.cons (.var 1) .nil)) .nil))) (.cons (.wh (.var 1) (.cons (.par [0, 1] (.cons (.var 1) (.cons (.bin .mod (.var 0) (.var 1)) .nil))) .nil)) (.cons (.ret (.var 0)) .nil))
def b_lowest : Ss := .cons (.asg (.nm 2) (.call 0 (.cons (.var 0) (.cons (.var 1) .nil)))) (.cons (.ret (.tup (.cons (.bin .fdiv (.var 0) (.var 2)) (.cons (.bin .fdiv (.var 1) (.var 2)) .nil)))) .nil)
def b_plus : Ss := .cons (.ret (.call 1 (.cons (.bin .add (.bin .mul (.idx (.var 0) (.cint 0)) (.idx (.var 1) (.cint 1))) (.bin .mul (.idx (.var 1) (.cint 0)) (.idx (.var 0) (.cint 1)))) (.cons (.bin .mul (.idx (.var 0) (.cint 1)) (.idx (.var 1) (.cint 1))) .nil)))) .nil
def b_product : Ss := .cons (.ret (.call 1 (.cons (.bin .mul (.idx (.var 0) (.cint 0)) (.idx (.var 1) (.cint 0))) (.cons (.bin .mul (.idx (.var 0) (.cint 1)) (.idx (.var 1) (.cint 1))) .nil)))) .nil
def b_is_less : Ss := .cons (.ret (.cmp .lt (.bin .mul (.idx (.var 0) (.cint 0)) (.idx (.var 1) (.cint 1))) (.bin .mul (.idx (.var 1) (.cint 0)) (.idx (.var 0) (.cint 1))))) .nil
def b_greater_of : Ss := .cons (.ret (.ite (.call 4 (.cons (.var 0) (.cons (.var 1) .nil))) (.var 1) (.var 0))) .nil
def b_gap_size : Ss := .cons (.ret (.call 1 (.cons (.prim .abs (.cons (.bin .sub (.bin .mul (.idx (.var 0) (.cint 0)) (.idx (.var 1) (.cint 1))) (.bin .mul (.idx (.var 1) (.cint 0)) (.idx (.var 0) (.cint 1)))) .nil)) (.cons (.bin .mul (.idx (.var 0) (.cint 1)) (.idx (.var 1) (.cint 1))) .nil)))) .nil
def b_rounded_up : Ss := .cons (.ret (.neg (.bin .fdiv (.neg (.idx (.var 0) (.cint 0))) (.idx (.var 0) (.cint 1))))) .nil
def b_forth_of : Ss := .cons (.ret (.tup (.cons (.idx (.var 0) (.cint 0)) (.cons (.idx (.var 0) (.cint 1)) .nil)))) .nil
def b_back_of : Ss := .cons (.ret (.tup (.cons (.idx (.var 0) (.cint 2)) (.cons (.idx (.var 0) (.cint 3)) .nil)))) .nil
def b_least_trip : Ss := .cons (.ret (.bin .add (.idx (.var 0) (.cint 0)) (.idx (.var 0) (.cint 2)))) .nil
def b_most_trip : Ss := .cons (.ret (.bin .add (.idx (.var 0) (.cint 1)) (.idx (.var 0) (.cint 3)))) .nil
def b_width_of : Ss := .cons (.ret (.bin .sub (.idx (.var 0) (.cint 1)) (.idx (.var 0) (.cint 0)))) .nil
def b_smoothed : Ss := .cons (.asg (.nm 3) (.tup (.cons (.var 2) (.cons (.cint 1) .nil)))) (.cons (.asg (.nm 1) (.call 2 (.cons (.call 3 (.cons (.tup (.cons (.cint 3) (.cons (.cint 4) .nil))) (.cons (.var 1) .nil))) (.cons (.call 3 (.cons (.tup (.cons (.cint 1) (.cons (.cint 4) .nil))) (.cons (.call 6 (.cons (.var 0) (.cons (.var 3) .nil))) .nil))) .nil)))) (.cons (.ret (.tup (.cons (.call 2 (.cons (.call 3 (.cons (.tup (.cons (.cint 7) (.cons (.cint 8) .nil))) (.cons (.var 0) .nil))) (.cons (.call 3 (.cons (.tup (.cons (.cint 1) (.cons (.cint 8) .nil))) (.cons (.var 3) .nil))) .nil))) (.cons (.var 1) .nil)))) .nil))
def b_first_pair : Ss := .cons (.ret (.tup (.cons (.tup (.cons (.var 0) (.cons (.cint 1) .nil))) (.cons (.call 1 (.cons (.var 0) (.cons (.cint 2) .nil))) .nil)))) .nil
def b_length_of : Ss := .cons (.ret (.call 2 (.cons (.var 0) (.cons (.call 5 (.cons (.tup (.cons (.var 2) (.cons (.cint 1) .nil))) (.cons (.call 3 (.cons (.tup (.cons (.cint 4) (.cons (.cint 1) .nil))) (.cons (.var 1) .nil))) .nil))) .nil)))) .nil
def b_lengths : Ss := .cons (.asg (.nm 1) (.lst (.cons (.call 14 (.cons (.idx (.var 0) (.cint 0)) .nil)) .nil))) (.cons (.fo (.nm 2) (.seq (.slc (.var 0) (.cint 1) (.absent))) (.cons (.asg (.tp (.cons (.nm 3) (.cons (.nm 4) .nil))) (.idx (.var 1) (.neg (.cint 1)))) (.cons (.expr (.meth .append (.var 1) (.cons (.call 13 (.cons (.var 3) (.cons (.var 4) (.cons (.var 2) .nil)))) .nil))) .nil))) (.cons (.ret (.prim .tuple (.cons (.var 1) .nil))) .nil))
def b_least_length : Ss := .cons (.asg (.tp (.cons (.nm 4) (.cons (.nm 5) .nil))) (.idx (.call 16 (.cons (.bin .mul (.tup (.cons (.var 0) .nil)) (.var 2)) .nil)) (.neg (.cint 1)))) (.cons (.ret (.call 15 (.cons (.var 4) (.cons (.var 5) (.cons (.var 3) .nil))))) .nil)
def b_spreads : Ss := .cons (.par [3, 4] (.cons (.idx (.var 0) (.cint 5)) (.cons (.idx (.var 0) (.cint 8)) .nil))) (.cons (.asg (.nm 5) (.lst (.cons (.cint 0) .nil))) (.cons (.ite (.cmp .gt (.var 4) (.cint 1)) (.cons (.fo (.nm 6) (.range2 (.cint 1) (.bin .add (.var 2) (.cint 1))) (.cons (.asg (.nm 7) (.bin .add (.idx (.var 5) (.bin .sub (.var 6) (.cint 1))) (.var 3))) (.cons (.ite (.cmp .gt (.var 6) (.bin .sub (.var 4) (.cint 1))) (.cons (.asg (.nm 7) (.prim .max (.cons (.var 7) (.cons (.bin .add (.idx (.var 5) (.bin .add (.bin .sub (.var 6) (.var 4)) (.cint 1))) (.call 10 (.cons (.var 1) .nil))) .nil)))) .nil) .nil) (.cons (.expr (.meth .append (.var 5) (.cons (.var 7) .nil))) .nil)))) .nil) .nil) (.cons (.ret (.prim .tuple (.cons (.var 5) .nil))) .nil)))
def b_first_length : Ss := .cons (.ret (.bin .add (.idx (.var 0) (.cint 3)) (.prim .max (.cons (.idx (.var 0) (.cint 2)) (.cons (.bin .mul (.cint 2) (.idx (.var 0) (.cint 3))) .nil))))) .nil
def b_patience_of : Ss := .cons (.ret (.call 7 (.cons (.call 5 (.cons (.tup (.cons (.idx (.var 0) (.cint 2)) (.cons (.cint 1) .nil))) (.cons (.call 3 (.cons (.idx (.var 0) (.cint 1)) (.cons (.tup (.cons (.call 10 (.cons (.var 1) .nil)) (.cons (.cint 1) .nil))) .nil))) .nil))) .nil))) .nil
def b_is_timed : Ss := .cons (.ret (.or (.cons (.cmp .eq (.idx (.var 0) (.cint 8)) (.cint 1)) (.cons (.cmp .le (.call 12 (.cons (.var 1) .nil)) (.idx (.var 0) (.cint 5))) (.cons (.cmp .ge (.call 20 (.cons (.var 0) (.cons (.var 1) .nil))) (.call 11 (.cons (.var 1) .nil))) .nil))))) .nil
def b_first_fault : Ss := .cons (.ite (.cmp .lt (.call 19 (.cons (.var 0) .nil)) (.call 11 (.cons (.var 1) .nil))) (.cons (.ret (.cstr (PySem.Str.ofString "first"))) .nil) .nil) (.cons (.ite (.cmp .lt (.bin .add (.call 10 (.cons (.var 1) .nil)) (.idx (.var 0) (.cint 2))) (.call 11 (.cons (.var 1) .nil))) (.cons (.ret (.cstr (PySem.Str.ofString "timer"))) .nil) .nil) (.cons (.ite (.cmp .eq (.idx (.var 0) (.cint 11)) (.cstr (PySem.Str.ofString "guess"))) (.cons (.ite (.and (.cons (.cmp .gt (.idx (.var 0) (.cint 8)) (.cint 1)) (.cons (.cmp .lt (.idx (.call 18 (.cons (.var 0) (.cons (.var 1) (.cons (.idx (.var 0) (.cint 0)) .nil)))) (.neg (.cint 1))) (.call 12 (.cons (.var 1) .nil))) .nil))) (.cons (.ret (.cstr (PySem.Str.ofString "number"))) .nil) .nil) (.cons (.ite (.not (.call 21 (.cons (.var 0) (.cons (.var 1) .nil)))) (.cons (.ret (.cstr (PySem.Str.ofString "time"))) .nil) .nil) .nil)) .nil) (.cons (.ret (.cstr (PySem.Str.ofString ""))) .nil)))
def b_pause_of : Ss := .cons (.ret (.prim .max (.cons (.bin .add (.call 10 (.cons (.var 1) .nil)) (.idx (.var 0) (.cint 12))) (.cons (.idx (.var 0) (.cint 5)) .nil)))) .nil
def b_grown_to_most : Ss := .cons (.asg (.nm 2) (.bin .sub (.idx (.var 0) (.cint 8)) (.idx (.var 0) (.cint 6)))) (.cons (.asg (.nm 3) (.call 23 (.cons (.var 0) (.cons (.var 1) .nil)))) (.cons (.ret (.tup (.cons (.tupG (.bin .mul (.var 4) (.var 3)) (.nm 4) (.range1 (.var 2)) .nil [4]) (.cons (.bin .mul (.var 2) (.var 3)) .nil)))) .nil))
def b_timer_case : Ss := .cons (.asg (.nm 2) (.call 10 (.cons (.var 1) .nil))) (.cons (.asg (.nm 3) (.cint 1)) (.cons (.wh (.cmp .ge (.call 7 (.cons (.call 17 (.cons (.var 2) (.cons (.var 2) (.cons (.var 3) (.cons (.idx (.var 0) (.cint 2)) .nil))))) .nil)) (.call 11 (.cons (.var 1) .nil))) (.cons (.aug 3 .add (.cint 1)) .nil)) (.cons (.asg (.nm 4) (.tupG (.bin .mul (.var 5) (.call 23 (.cons (.var 0) (.cons (.var 1) .nil)))) (.nm 5) (.range1 (.bin .add (.var 3) (.cint 1))) .nil [5])) (.cons (.ret (.tup (.cons (.tup (.cons (.tup (.cons (.var 4) (.cons (.cint 60) (.cons (.cint 0) .nil)))) .nil)) (.cons (.tup (.cons (.bin .add (.bin .mul (.tup (.cons (.idx (.var 1) (.cint 0)) .nil)) (.var 3)) (.tup (.cons (.idx (.var 1) (.cint 1)) .nil))) (.cons (.bin .add (.bin .mul (.tup (.cons (.idx (.var 1) (.cint 2)) .nil)) (.var 3)) (.tup (.cons (.idx (.var 1) (.cint 3)) .nil))) .nil))) .nil)))) .nil))))
def b_number_case : Ss := .cons (.asg (.tp (.cons (.nm 2) (.cons (.nm 3) .nil))) (.call 8 (.cons (.var 1) .nil))) (.cons (.asg (.tp (.cons (.nm 4) (.cons (.nm 5) .nil))) (.call 24 (.cons (.var 0) (.cons (.var 1) .nil)))) (.cons (.asg (.nm 6) (.bin .add (.bin .add (.bin .mul (.tup (.cons (.var 2) .nil)) (.prim .len (.cons (.var 4) .nil))) (.tup (.cons (.var 3) .nil))) (.bin .mul (.tup (.cons (.var 2) .nil)) (.idx (.var 0) (.cint 0))))) (.cons (.ret (.tup (.cons (.tup (.cons (.tup (.cons (.bin .add (.var 4) (.bin .mul (.tup (.cons (.var 5) .nil)) (.bin .add (.idx (.var 0) (.cint 0)) (.cint 1)))) (.cons (.cint 60) (.cons (.cint 0) .nil)))) .nil)) (.cons (.tup (.cons (.var 6) (.cons (.tup .nil) .nil))) .nil)))) .nil)))
def b_time_case : Ss := .cons (.asg (.tp (.cons (.nm 2) (.cons (.nm 3) .nil))) (.call 8 (.cons (.var 1) .nil))) (.cons (.asg (.tp (.cons (.nm 4) (.cons (.nm 5) .nil))) (.call 9 (.cons (.var 1) .nil))) (.cons (.asg (.nm 6) (.call 23 (.cons (.var 0) (.cons (.var 1) .nil)))) (.cons (.ret (.tup (.cons (.tup (.cons (.tup (.cons (.tup (.cons (.cint 0) (.cons (.var 6) (.cons (.var 6) .nil)))) (.cons (.cint 60) (.cons (.cint 0) .nil)))) .nil)) (.cons (.tup (.cons (.tup (.cons (.var 2) (.cons (.var 3) (.cons (.var 2) .nil)))) (.cons (.tup (.cons (.var 4) (.cons (.var 4) (.cons (.var 5) .nil)))) .nil))) .nil)))) .nil)))
def b_sure : Ss := .cons (.asg (.nm 2) (.call 22 (.cons (.var 0) (.cons (.var 1) .nil)))) (.cons (.ite (.not (.var 2)) (.cons (.ret (.tup (.cons (.cstr (PySem.Str.ofString "sure")) .nil))) .nil) .nil) (.cons (.ite (.cmp .eq (.var 2) (.cstr (PySem.Str.ofString "first"))) (.cons (.asg (.nm 3) (.tup (.cons (.tup (.cons (.tup (.cons (.tup (.cons (.cint 0) .nil)) (.cons (.cint 60) (.cons (.cint 0) .nil)))) .nil)) (.cons (.tup (.cons (.tup (.cons (.idx (.var 1) (.cint 1)) .nil)) (.cons (.tup (.cons (.idx (.var 1) (.cint 3)) .nil)) .nil))) .nil)))) .nil) (.cons (.ite (.cmp .eq (.var 2) (.cstr (PySem.Str.ofString "timer"))) (.cons (.asg (.nm 3) (.call 25 (.cons (.var 0) (.cons (.var 1) .nil)))) .nil) (.cons (.ite (.cmp .eq (.var 2) (.cstr (PySem.Str.ofString "number"))) (.cons (.asg (.nm 3) (.call 26 (.cons (.var 0) (.cons (.var 1) .nil)))) .nil) (.cons (.asg (.nm 3) (.call 27 (.cons (.var 0) (.cons (.var 1) .nil)))) .nil)) .nil)) .nil)) (.cons (.ret (.bin .add (.tup (.cons (.cstr (PySem.Str.ofString "needless")) (.cons (.var 2) .nil))) (.var 3))) .nil)))
def b_with_items : Ss := .cons (.asg (.nm 2) (.prim .list (.cons (.var 0) .nil))) (.cons (.fo (.tp (.cons (.nm 3) (.cons (.nm 4) .nil))) (.seq (.var 1)) (.cons (.setS (.var 2) (.var 3) (.var 4)) .nil)) (.cons (.ret (.prim .tuple (.cons (.var 2) .nil))) .nil))
def b_with_timers : Ss := .cons (.asg (.nm 2) (.prim .max (.cons (.idx (.var 0) (.cint 2)) (.cons (.bin .sub (.call 11 (.cons (.var 1) .nil)) (.call 10 (.cons (.var 1) .nil))) .nil)))) (.cons (.asg (.nm 3) (.idx (.var 0) (.cint 3))) (.cons (.wh (.and (.cons (.cmp .le (.var 3) (.gcon (PySem.Str.ofString "MOST_GRAIN") (.int 1000))) (.cons (.cmp .lt (.call 19 (.cons (.call 29 (.cons (.var 0) (.cons (.tup (.cons (.tup (.cons (.cint 2) (.cons (.var 2) .nil))) (.cons (.tup (.cons (.cint 3) (.cons (.var 3) .nil))) .nil))) .nil))) .nil)) (.call 11 (.cons (.var 1) .nil))) .nil))) (.cons (.aug 3 .add (.cint 1)) .nil)) (.cons (.ite (.or (.cons (.cmp .gt (.var 2) (.gcon (PySem.Str.ofString "MOST_GRAIN") (.int 1000))) (.cons (.cmp .gt (.var 3) (.gcon (PySem.Str.ofString "MOST_GRAIN") (.int 1000))) .nil))) (.cons (.ret (.cnon)) .nil) .nil) (.cons (.ret (.call 29 (.cons (.var 0) (.cons (.tup (.cons (.tup (.cons (.cint 2) (.cons (.var 2) .nil))) (.cons (.tup (.cons (.cint 3) (.cons (.var 3) .nil))) .nil))) .nil)))) .nil))))
def b_with_theta : Ss := .cons (.ite (.call 21 (.cons (.var 0) (.cons (.var 1) .nil))) (.cons (.ret (.var 0)) .nil) .nil) (.cons (.asg (.nm 2) (.call 7 (.cons (.call 3 (.cons (.idx (.var 0) (.cint 1)) (.cons (.tup (.cons (.cint 8) (.cons (.cint 1) .nil))) .nil))) .nil))) (.cons (.wh (.cmp .le (.var 2) (.gcon (PySem.Str.ofString "MOST_EIGHTHS") (.int 72))) (.cons (.asg (.nm 3) (.call 29 (.cons (.var 0) (.cons (.tup (.cons (.tup (.cons (.cint 1) (.cons (.call 1 (.cons (.var 2) (.cons (.cint 8) .nil))) .nil))) .nil)) .nil)))) (.cons (.ite (.call 21 (.cons (.var 3) (.cons (.var 1) .nil))) (.cons (.ret (.var 3)) .nil) .nil) (.cons (.aug 2 .add (.cint 1)) .nil)))) (.cons (.ret (.cnon)) .nil)))
def b_mended : Ss := .cons (.asg (.nm 2) (.call 30 (.cons (.var 0) (.cons (.var 1) .nil)))) (.cons (.ite (.or (.cons (.cmp .isN (.var 2) (.cnon)) (.cons (.cmp .ne (.idx (.var 0) (.cint 11)) (.cstr (PySem.Str.ofString "guess"))) .nil))) (.cons (.ret (.var 2)) .nil) .nil) (.cons (.asg (.nm 3) (.idx (.var 2) (.cint 0))) (.cons (.wh (.and (.cons (.cmp .le (.var 3) (.gcon (PySem.Str.ofString "MOST_K") (.int 9))) (.cons (.cmp .eq (.call 22 (.cons (.call 29 (.cons (.var 2) (.cons (.tup (.cons (.tup (.cons (.cint 0) (.cons (.var 3) .nil))) .nil)) .nil))) (.cons (.var 1) .nil))) (.cstr (PySem.Str.ofString "number"))) .nil))) (.cons (.aug 3 .add (.cint 1)) .nil)) (.cons (.ite (.cmp .gt (.var 3) (.gcon (PySem.Str.ofString "MOST_K") (.int 9))) (.cons (.ret (.cnon)) .nil) .nil) (.cons (.ret (.call 31 (.cons (.call 29 (.cons (.var 2) (.cons (.tup (.cons (.tup (.cons (.cint 0) (.cons (.var 3) .nil))) .nil)) .nil))) (.cons (.var 1) .nil)))) .nil)))))
def b__law_bag : Ss := .cons (.asg (.nm 1) (.bin .add (.lc (.prim .abs (.cons (.prim .int (.cons (.var 3) .nil)) .nil)) (.nm 3) (.seq (.var 0)) .nil [3]) (.lst (.cons (.cint 7) .nil)))) (.cons (.asg (.nm 2) (.lst .nil)) (.cons (.ite (.cmp .eq (.bin .mod (.prim .int (.cons (.idx (.var 1) (.cint 0)) .nil)) (.cint 2)) (.cint 0)) (.cons (.asg (.nm 2) (.lc (.bin .fdiv (.var 3) (.cint 2)) (.nm 3) (.seq (.var 1)) (.cons (.cmp .ge (.var 3) (.bin .pow (.cint 10) (.cint 18))) .nil) [3])) (.cons (.expr (.meth .reverse (.var 2) .nil)) .nil)) .nil) (.cons (.ret (.lst (.cons (.cint 0) (.cons (.cint 0) (.cons (.var 2) (.cons (.lc (.bin .mod (.prim .int (.cons (.var 3) .nil)) (.cint 2147483647)) (.nm 3) (.seq (.var 1)) .nil [3]) .nil)))))) .nil)))
def b__law_draw : Ss := .cons (.setS (.var 0) (.cint 1) (.bin .add (.idx (.var 0) (.cint 1)) (.cint 1))) (.cons (.ite (.and (.cons (.cmp .eq (.idx (.var 0) (.cint 0)) (.cint 0)) (.cons (.cmp .gt (.prim .len (.cons (.idx (.var 0) (.cint 2)) .nil)) (.cint 0)) .nil))) (.cons (.setS (.var 0) (.cint 0) (.meth .pop (.idx (.var 0) (.cint 2)) .nil)) .nil) .nil) (.cons (.ite (.cmp .gt (.idx (.var 0) (.cint 0)) (.cint 0)) (.cons (.asg (.nm 2) (.bin .mod (.prim .int (.cons (.idx (.var 0) (.cint 0)) .nil)) (.var 1))) (.cons (.setS (.var 0) (.cint 0) (.bin .fdiv (.idx (.var 0) (.cint 0)) (.var 1))) (.cons (.ret (.var 2)) .nil))) .nil) (.cons (.asg (.nm 3) (.idx (.idx (.var 0) (.cint 3)) (.bin .mod (.prim .int (.cons (.idx (.var 0) (.cint 1)) .nil)) (.prim .len (.cons (.idx (.var 0) (.cint 3)) .nil))))) (.cons (.asg (.nm 4) (.bin .mod (.prim .int (.cons (.bin .add (.bin .add (.bin .mul (.var 3) (.cint 48271)) (.bin .mul (.idx (.var 0) (.cint 1)) (.cint 69621))) (.cint 1)) .nil)) (.cint 2147483647))) (.cons (.ret (.bin .mod (.bin .fdiv (.bin .mod (.prim .int (.cons (.bin .add (.bin .add (.bin .mul (.var 4) (.var 4)) (.bin .mul (.var 4) (.cint 16807))) (.bin .mul (.idx (.var 0) (.cint 1)) (.cint 40014))) .nil)) (.cint 2147483629)) (.cint 32)) (.var 1))) .nil)))))
def b__law_pick : Ss := .cons (.ret (.idx (.var 1) (.call 34 (.cons (.var 0) (.cons (.prim .len (.cons (.var 1) .nil)) .nil))))) .nil
def b__law_same : Ss := .cons (.ite (.cmp .isN (.var 1) (.cnon)) (.cons (.ret (.cmp .isN (.var 0) (.cnon))) .nil) .nil) (.cons (.ite (.or (.cons (.isin .bool (.var 1)) (.cons (.isin .bool (.var 0)) .nil))) (.cons (.ret (.and (.cons (.isin .bool (.var 1)) (.cons (.isin .bool (.var 0)) (.cons (.cmp .eq (.var 0) (.var 1)) .nil))))) .nil) .nil) (.cons (.ite (.isin .int (.var 1)) (.cons (.ret (.and (.cons (.isin .int (.var 0)) (.cons (.cmp .eq (.var 0) (.var 1)) .nil)))) .nil) .nil) (.cons (.ite (.isin .str (.var 1)) (.cons (.ret (.and (.cons (.isin .str (.var 0)) (.cons (.cmp .eq (.var 0) (.var 1)) .nil)))) .nil) .nil) (.cons (.ite (.or (.cons (.not (.isin .tuple (.var 1))) (.cons (.not (.isin .tuple (.var 0))) (.cons (.cmp .ne (.prim .len (.cons (.var 0) .nil)) (.prim .len (.cons (.var 1) .nil))) .nil)))) (.cons (.ret (.cbl false)) .nil) .nil) (.cons (.fo (.nm 2) (.range1 (.prim .len (.cons (.var 1) .nil))) (.cons (.ite (.not (.call 36 (.cons (.idx (.var 0) (.var 2)) (.cons (.idx (.var 1) (.var 2)) .nil)))) (.cons (.ret (.cbl false)) .nil) .nil) .nil)) (.cons (.ret (.cbl true)) .nil))))))
def b__law_gcd : Ss := .cons (.par [0, 1] (.cons (.prim .abs (.cons (.var 0) .nil)) (.cons (.prim .abs (.cons (.var 1) .nil)) .nil))) (.cons (.wh (.cmp .ne (.var 1) (.cint 0)) (.cons (.par [0, 1] (.cons (.var 1) (.cons (.bin .mod (.prim .int (.cons (.var 0) .nil)) (.var 1)) .nil))) .nil)) (.cons (.ret (.var 0)) .nil))
def b__law_fr : Ss := .cons (.asg (.nm 2) (.call 37 (.cons (.var 0) (.cons (.var 1) .nil)))) (.cons (.ret (.tup (.cons (.bin .fdiv (.var 0) (.var 2)) (.cons (.bin .fdiv (.var 1) (.var 2)) .nil)))) .nil)
def b__law_times : Ss := .cons (.ret (.call 38 (.cons (.bin .mul (.idx (.var 0) (.cint 0)) (.idx (.var 1) (.cint 0))) (.cons (.bin .mul (.idx (.var 0) (.cint 1)) (.idx (.var 1) (.cint 1))) .nil)))) .nil
def b__law_more : Ss := .cons (.ret (.ite (.cmp .lt (.bin .mul (.idx (.var 0) (.cint 0)) (.idx (.var 1) (.cint 1))) (.bin .mul (.idx (.var 1) (.cint 0)) (.idx (.var 0) (.cint 1)))) (.var 1) (.var 0))) .nil
def b__law_up : Ss := .cons (.ret (.bin .sub (.cint 0) (.bin .fdiv (.bin .sub (.cint 0) (.idx (.var 0) (.cint 0))) (.idx (.var 0) (.cint 1))))) .nil
def b__law_road : Ss := .cons (.par [3, 4] (.cons (.bin .add (.call 34 (.cons (.var 0) (.cons (.var 1) .nil))) (.cint 1)) (.cons (.bin .add (.call 34 (.cons (.var 0) (.cons (.var 1) .nil))) (.cint 1)) .nil))) (.cons (.ret (.tup (.cons (.var 3) (.cons (.bin .add (.var 3) (.call 34 (.cons (.var 0) (.cons (.bin .add (.var 2) (.cint 1)) .nil)))) (.cons (.var 4) (.cons (.bin .add (.var 4) (.call 34 (.cons (.var 0) (.cons (.bin .add (.var 2) (.cint 1)) .nil)))) .nil)))))) .nil)
def b__law_book : Ss := .cons (.asg (.nm 3) (.bin .add (.call 34 (.cons (.var 0) (.cons (.cint 3) .nil))) (.cint 1))) (.cons (.asg (.nm 4) (.bin .add (.var 3) (.call 34 (.cons (.var 0) (.cons (.cint 3) .nil))))) (.cons (.asg (.nm 5) (.bin .add (.var 4) (.call 34 (.cons (.var 0) (.cons (.cint 4) .nil))))) (.cons (.asg (.nm 6) (.call 35 (.cons (.var 0) (.cons (.lst (.cons (.tup (.cons (.cint 1) (.cons (.cint 1) .nil))) (.cons (.tup (.cons (.cint 9) (.cons (.cint 8) .nil))) (.cons (.tup (.cons (.cint 3) (.cons (.cint 2) .nil))) (.cons (.tup (.cons (.cint 2) (.cons (.cint 1) .nil))) (.cons (.tup (.cons (.cint 9) (.cons (.cint 1) .nil))) .nil)))))) .nil)))) (.cons (.asg (.nm 7) (.call 35 (.cons (.var 0) (.cons (.lst (.cons (.tup (.cons (.cint 1) (.cons (.cint 2) .nil))) (.cons (.tup (.cons (.cint 7) (.cons (.cint 10) .nil))) (.cons (.tup (.cons (.cint 1) (.cons (.cint 3) .nil))) (.cons (.tup (.cons (.cint 99) (.cons (.cint 100) .nil))) .nil))))) .nil)))) (.cons (.asg (.nm 8) (.tup (.cons (.bin .add (.call 34 (.cons (.var 0) (.cons (.cint 4) .nil))) (.cint 1)) (.cons (.var 6) (.cons (.bin .add (.call 34 (.cons (.var 0) (.cons (.cint 12) .nil))) (.cint 1)) (.cons (.bin .add (.call 34 (.cons (.var 0) (.cons (.cint 8) .nil))) (.cint 1)) (.cons (.bin .add (.call 34 (.cons (.var 0) (.cons (.cint 2) .nil))) (.cint 1)) (.cons (.bin .add (.call 34 (.cons (.var 0) (.cons (.cint 3) .nil))) (.cint 1)) .nil)))))))) (.cons (.ret (.bin .add (.var 8) (.tup (.cons (.var 4) (.cons (.var 3) (.cons (.var 5) (.cons (.var 7) (.cons (.call 34 (.cons (.var 0) (.cons (.cint 4) .nil))) (.cons (.call 35 (.cons (.var 0) (.cons (.var 1) .nil))) (.cons (.call 35 (.cons (.var 0) (.cons (.var 2) .nil))) .nil)))))))))) .nil))))))
def b__law_s : Ss := .cons (.asg (.nm 3) (.lst (.cons (.cint 0) .nil))) (.cons (.fo (.nm 4) (.range2 (.cint 1) (.ite (.cmp .gt (.idx (.var 0) (.cint 8)) (.cint 1)) (.bin .add (.var 2) (.cint 1)) (.cint 1))) (.cons (.asg (.nm 5) (.bin .add (.idx (.var 3) (.bin .sub (.var 4) (.cint 1))) (.idx (.var 0) (.cint 5)))) (.cons (.ite (.cmp .gt (.var 4) (.bin .sub (.idx (.var 0) (.cint 8)) (.cint 1))) (.cons (.asg (.nm 5) (.prim .max (.cons (.var 5) (.cons (.bin .add (.bin .add (.idx (.var 3) (.bin .add (.bin .sub (.var 4) (.idx (.var 0) (.cint 8))) (.cint 1))) (.idx (.var 1) (.cint 0))) (.idx (.var 1) (.cint 2))) .nil)))) .nil) .nil) (.cons (.expr (.meth .append (.var 3) (.cons (.var 5) .nil))) .nil)))) (.cons (.ret (.prim .tuple (.cons (.var 3) .nil))) .nil))
def b__law_fault : Ss := .cons (.par [2, 3, 4] (.cons (.bin .add (.idx (.var 1) (.cint 0)) (.idx (.var 1) (.cint 2))) (.cons (.bin .add (.idx (.var 1) (.cint 1)) (.idx (.var 1) (.cint 3))) (.cons (.bin .sub (.idx (.var 1) (.cint 1)) (.idx (.var 1) (.cint 0))) .nil)))) (.cons (.ite (.cmp .lt (.bin .add (.idx (.var 0) (.cint 3)) (.prim .max (.cons (.idx (.var 0) (.cint 2)) (.cons (.bin .mul (.cint 2) (.idx (.var 0) (.cint 3))) .nil)))) (.var 3)) (.cons (.ret (.cstr (PySem.Str.ofString "first"))) .nil) .nil) (.cons (.ite (.cmp .lt (.bin .add (.var 2) (.idx (.var 0) (.cint 2))) (.var 3)) (.cons (.ret (.cstr (PySem.Str.ofString "timer"))) .nil) .nil) (.cons (.ite (.and (.cons (.cmp .eq (.idx (.var 0) (.cint 11)) (.cstr (PySem.Str.ofString "guess"))) (.cons (.cmp .gt (.idx (.var 0) (.cint 8)) (.cint 1)) .nil))) (.cons (.ite (.cmp .lt (.idx (.call 44 (.cons (.var 0) (.cons (.var 1) (.cons (.idx (.var 0) (.cint 0)) .nil)))) (.neg (.cint 1))) (.var 4)) (.cons (.ret (.cstr (PySem.Str.ofString "number"))) .nil) .nil) (.cons (.ite (.and (.cons (.cmp .gt (.var 4) (.idx (.var 0) (.cint 5))) (.cons (.cmp .lt (.call 41 (.cons (.call 40 (.cons (.tup (.cons (.idx (.var 0) (.cint 2)) (.cons (.cint 1) .nil))) (.cons (.call 39 (.cons (.idx (.var 0) (.cint 1)) (.cons (.tup (.cons (.var 2) (.cons (.cint 1) .nil))) .nil))) .nil))) .nil)) (.var 3)) .nil))) (.cons (.ret (.cstr (PySem.Str.ofString "time"))) .nil) .nil) .nil)) .nil) (.cons (.ret (.cstr (PySem.Str.ofString ""))) .nil))))
def b__law_made_sure : Ss := .cons (.asg (.nm 2) (.prim .list (.cons (.var 0) .nil))) (.cons (.setS (.var 2) (.cint 2) (.prim .max (.cons (.idx (.var 0) (.cint 2)) (.cons (.bin .sub (.bin .sub (.bin .add (.idx (.var 1) (.cint 1)) (.idx (.var 1) (.cint 3))) (.idx (.var 1) (.cint 0))) (.idx (.var 1) (.cint 2))) .nil)))) (.cons (.setS (.var 2) (.cint 3) (.prim .max (.cons (.idx (.var 0) (.cint 3)) (.cons (.bin .add (.idx (.var 1) (.cint 1)) (.idx (.var 1) (.cint 3))) .nil)))) (.cons (.ite (.cmp .eq (.idx (.var 0) (.cint 11)) (.cstr (PySem.Str.ofString "guess"))) (.cons (.setS (.var 2) (.cint 0) (.cint 9)) (.cons (.setS (.var 2) (.cint 1) (.tup (.cons (.cint 9) (.cons (.cint 1) .nil)))) .nil)) .nil) (.cons (.ret (.prim .tuple (.cons (.var 2) .nil))) .nil))))
def b__law_some_road : Ss := .cons (.asg (.nm 1) (.call 34 (.cons (.var 0) (.cons (.cint 6) .nil)))) (.cons (.ite (.cmp .eq (.var 1) (.cint 0)) (.cons (.par [2, 3] (.cons (.bin .add (.cint 1) (.call 34 (.cons (.var 0) (.cons (.cint 400) .nil)))) (.cons (.bin .add (.cint 1) (.call 34 (.cons (.var 0) (.cons (.cint 400) .nil)))) .nil))) (.cons (.ret (.tup (.cons (.var 2) (.cons (.bin .add (.var 2) (.call 34 (.cons (.var 0) (.cons (.cint 601) .nil)))) (.cons (.var 3) (.cons (.bin .add (.var 3) (.call 34 (.cons (.var 0) (.cons (.cint 601) .nil)))) .nil)))))) .nil)) .nil) (.cons (.ite (.cmp .eq (.var 1) (.cint 1)) (.cons (.ret (.call 35 (.cons (.var 0) (.cons (.lst (.cons (.tup (.cons (.cint 1) (.cons (.cint 1000) (.cons (.cint 1) (.cons (.cint 1000) .nil))))) (.cons (.tup (.cons (.cint 1000) (.cons (.cint 1000) (.cons (.cint 1000) (.cons (.cint 1000) .nil))))) (.cons (.tup (.cons (.cint 1) (.cons (.cint 1000) (.cons (.cint 1000) (.cons (.cint 1000) .nil))))) (.cons (.tup (.cons (.cint 500) (.cons (.cint 500) (.cons (.cint 1) (.cons (.cint 2) .nil))))) (.cons (.tup (.cons (.cint 1) (.cons (.cint 10) (.cons (.cint 1) (.cons (.cint 1) .nil))))) .nil)))))) .nil)))) .nil) .nil) (.cons (.ret (.call 42 (.cons (.var 0) (.cons (.cint 12) (.cons (.cint 12) .nil))))) .nil)))
def b__law_theta_will_do : Ss := .cons (.asg (.nm 4) (.bin .sub (.idx (.var 1) (.cint 1)) (.idx (.var 1) (.cint 0)))) (.cons (.ite (.or (.cons (.cmp .eq (.idx (.var 0) (.cint 8)) (.cint 1)) (.cons (.cmp .le (.var 4) (.idx (.var 0) (.cint 5))) .nil))) (.cons (.ret (.cbl true)) .nil) .nil) (.cons (.ret (.cmp .ge (.call 41 (.cons (.call 40 (.cons (.tup (.cons (.var 2) (.cons (.cint 1) .nil))) (.cons (.call 39 (.cons (.var 3) (.cons (.tup (.cons (.bin .add (.idx (.var 1) (.cint 0)) (.idx (.var 1) (.cint 2))) (.cons (.cint 1) .nil))) .nil))) .nil))) .nil)) (.bin .add (.idx (.var 1) (.cint 1)) (.idx (.var 1) (.cint 3))))) .nil))
def b__law_mended : Ss := .cons (.par [2, 3, 4] (.cons (.bin .add (.idx (.var 1) (.cint 1)) (.idx (.var 1) (.cint 3))) (.cons (.bin .add (.idx (.var 1) (.cint 0)) (.idx (.var 1) (.cint 2))) (.cons (.bin .sub (.idx (.var 1) (.cint 1)) (.idx (.var 1) (.cint 0))) .nil)))) (.cons (.asg (.nm 5) (.prim .list (.cons (.var 0) .nil))) (.cons (.setS (.var 5) (.cint 2) (.prim .max (.cons (.idx (.var 0) (.cint 2)) (.cons (.bin .sub (.var 2) (.var 3)) .nil)))) (.cons (.ite (.cmp .gt (.idx (.var 5) (.cint 2)) (.cint 1000)) (.cons (.ret (.cnon)) .nil) .nil) (.cons (.wh (.and (.cons (.cmp .le (.idx (.var 5) (.cint 3)) (.cint 1000)) (.cons (.cmp .lt (.bin .add (.idx (.var 5) (.cint 3)) (.prim .max (.cons (.idx (.var 5) (.cint 2)) (.cons (.bin .mul (.cint 2) (.idx (.var 5) (.cint 3))) .nil)))) (.var 2)) .nil))) (.cons (.augS (.var 5) (.cint 3) .add (.cint 1)) .nil)) (.cons (.ite (.cmp .gt (.idx (.var 5) (.cint 3)) (.cint 1000)) (.cons (.ret (.cnon)) .nil) .nil) (.cons (.ite (.cmp .eq (.idx (.var 0) (.cint 11)) (.cstr (PySem.Str.ofString "guess"))) (.cons (.wh (.and (.cons (.cmp .le (.idx (.var 5) (.cint 0)) (.cint 9)) (.cons (.cmp .gt (.idx (.var 0) (.cint 8)) (.cint 1)) (.cons (.cmp .lt (.idx (.call 44 (.cons (.var 0) (.cons (.var 1) (.cons (.idx (.var 5) (.cint 0)) .nil)))) (.neg (.cint 1))) (.var 4)) .nil)))) (.cons (.augS (.var 5) (.cint 0) .add (.cint 1)) .nil)) (.cons (.ite (.cmp .gt (.idx (.var 5) (.cint 0)) (.cint 9)) (.cons (.ret (.cnon)) .nil) .nil) (.cons (.asg (.nm 6) (.idx (.var 0) (.cint 1))) (.cons (.ite (.not (.call 48 (.cons (.var 0) (.cons (.var 1) (.cons (.idx (.var 5) (.cint 2)) (.cons (.var 6) .nil)))))) (.cons (.asg (.nm 7) (.lc (.var 8) (.nm 8) (.range2 (.cint 8) (.cint 73)) (.cons (.and (.cons (.cmp .ge (.bin .mul (.var 8) (.idx (.var 6) (.cint 1))) (.bin .mul (.cint 8) (.idx (.var 6) (.cint 0)))) (.cons (.call 48 (.cons (.var 0) (.cons (.var 1) (.cons (.idx (.var 5) (.cint 2)) (.cons (.call 38 (.cons (.var 8) (.cons (.cint 8) .nil))) .nil))))) .nil))) .nil) [8])) (.cons (.ite (.cmp .eq (.var 7) (.lst .nil)) (.cons (.ret (.cnon)) .nil) .nil) (.cons (.asg (.nm 6) (.call 38 (.cons (.idx (.var 7) (.cint 0)) (.cons (.cint 8) .nil)))) .nil))) .nil) (.cons (.setS (.var 5) (.cint 1) (.var 6)) .nil))))) .nil) (.cons (.ret (.prim .tuple (.cons (.var 5) .nil))) .nil)))))))
def b__law_less : Ss := .cons (.asg (.nm 2) (.lst .nil)) (.cons (.fo (.nm 3) (.seq (.tup (.cons (.cint 2) (.cons (.cint 3) (.cons (.cint 0) .nil))))) (.cons (.ite (.cmp .gt (.idx (.var 1) (.var 3)) (.idx (.var 0) (.var 3))) (.cons (.asg (.nm 4) (.prim .list (.cons (.var 1) .nil))) (.cons (.augS (.var 4) (.var 3) .sub (.cint 1)) (.cons (.expr (.meth .append (.var 2) (.cons (.prim .tuple (.cons (.var 4) .nil)) .nil))) .nil))) .nil) .nil)) (.cons (.ret (.var 2)) .nil))
def b_law : Ss := .cons (.asg (.nm 1) (.call 33 (.cons (.var 0) .nil))) (.cons (.fo (.nm 2) (.range1 (.cint 6)) (.cons (.par [3, 4] (.cons (.call 43 (.cons (.var 1) (.cons (.lst (.cons (.cstr (PySem.Str.ofString "guess")) (.cons (.cstr (PySem.Str.ofString "guess")) (.cons (.cstr (PySem.Str.ofString "proof")) (.cons (.cstr (PySem.Str.ofString "told")) .nil))))) (.cons (.lst (.cons (.cint 0) (.cons (.cint 0) (.cons (.cint 5) .nil)))) .nil)))) (.cons (.call 47 (.cons (.var 1) .nil)) .nil))) (.cons (.ite (.cmp .eq (.call 34 (.cons (.var 1) (.cons (.cint 2) .nil))) (.cint 0)) (.cons (.asg (.nm 3) (.bin .add (.tup (.cons (.idx (.var 3) (.cint 0)) (.cons (.call 35 (.cons (.var 1) (.cons (.lst (.cons (.tup (.cons (.cint 4) (.cons (.cint 3) .nil))) (.cons (.tup (.cons (.cint 7) (.cons (.cint 5) .nil))) (.cons (.tup (.cons (.cint 10) (.cons (.cint 9) .nil))) (.cons (.tup (.cons (.cint 31) (.cons (.cint 10) .nil))) (.cons (.tup (.cons (.cint 101) (.cons (.cint 100) .nil))) (.cons (.tup (.cons (.cint 26) (.cons (.cint 3) .nil))) .nil))))))) .nil))) .nil))) (.slc (.var 3) (.cint 2) (.absent)))) .nil) .nil) (.cons (.ite (.and (.cons (.cmp .eq (.call 34 (.cons (.var 1) (.cons (.cint 4) .nil))) (.cint 0)) (.cons (.cmp .le (.bin .add (.idx (.var 4) (.cint 1)) (.idx (.var 4) (.cint 3))) (.cint 1000)) .nil))) (.cons (.asg (.nm 3) (.call 46 (.cons (.var 3) (.cons (.var 4) .nil)))) .nil) .nil) (.cons (.asg (.nm 5) (.call 49 (.cons (.var 3) (.cons (.var 4) .nil)))) (.cons (.ite (.not (.call 36 (.cons (.tup (.cons (.call 32 (.cons (.var 3) (.cons (.var 4) .nil))) (.cons (.callk 32 .nil (.cons (.var 4) (.cons (.var 3) .nil)) [1, 0]) .nil))) (.cons (.tup (.cons (.var 5) (.cons (.var 5) .nil))) .nil)))) (.cons (.ret (.cbl false)) .nil) .nil) (.cons (.ite (.cmp .notN (.var 5) (.cnon)) (.cons (.ite (.or (.cons (.cmp .ne (.call 45 (.cons (.var 5) (.cons (.var 4) .nil))) (.cstr (PySem.Str.ofString ""))) (.cons (.not (.call 36 (.cons (.tup (.cons (.call 28 (.cons (.var 5) (.cons (.var 4) .nil))) (.cons (.callk 28 .nil (.cons (.var 4) (.cons (.var 5) .nil)) [1, 0]) .nil))) (.cons (.tup (.cons (.tup (.cons (.cstr (PySem.Str.ofString "sure")) .nil)) (.cons (.tup (.cons (.cstr (PySem.Str.ofString "sure")) .nil)) .nil))) .nil)))) .nil))) (.cons (.ret (.cbl false)) .nil) .nil) (.cons (.fo (.nm 6) (.seq (.call 50 (.cons (.var 3) (.cons (.var 5) .nil)))) (.cons (.asg (.nm 7) (.call 28 (.cons (.var 6) (.cons (.var 4) .nil)))) (.cons (.ite (.or (.cons (.cmp .eq (.call 45 (.cons (.var 6) (.cons (.var 4) .nil))) (.cstr (PySem.Str.ofString ""))) (.cons (.not (.isin .tuple (.var 7))) (.cons (.cmp .eq (.var 7) (.tup .nil)) (.cons (.not (.call 36 (.cons (.idx (.var 7) (.cint 0)) (.cons (.cstr (PySem.Str.ofString "needless")) .nil)))) .nil))))) (.cons (.ret (.cbl false)) .nil) .nil) .nil))) .nil)) .nil) (.cons (.ite (.and (.cons (.cmp .eq (.call 45 (.cons (.var 3) (.cons (.var 4) .nil))) (.cstr (PySem.Str.ofString ""))) (.cons (.not (.call 36 (.cons (.var 5) (.cons (.var 3) .nil)))) .nil))) (.cons (.ret (.cbl false)) .nil) .nil) .nil)))))))) (.cons (.ret (.cbl true)) .nil))
/-! ### the defs -/
def i_divisor : Nat := 0
def d_divisor : Def := ⟨PySem.Str.ofString "divisor", PySem.Str.ofString "divisor", topS 1, [PySem.Str.ofString "one", PySem.Str.ofString "other"], [PySem.Str.ofString "one", PySem.Str.ofString "other"], ⟨2, 2, b_divisor, true⟩, false⟩
def i_lowest : Nat := 1
def d_lowest : Def := ⟨PySem.Str.ofString "lowest", PySem.Str.ofString "lowest", topS 3, [PySem.Str.ofString "above", PySem.Str.ofString "below", PySem.Str.ofString "by"], [PySem.Str.ofString "above", PySem.Str.ofString "below"], ⟨2, 3, b_lowest, true⟩, false⟩
def i_plus : Nat := 2
def d_plus : Def := ⟨PySem.Str.ofString "plus", PySem.Str.ofString "plus", topS 4, [PySem.Str.ofString "one", PySem.Str.ofString "other"], [PySem.Str.ofString "one", PySem.Str.ofString "other"], ⟨2, 2, b_plus, true⟩, false⟩
def i_product : Nat := 3
def d_product : Def := ⟨PySem.Str.ofString "product", PySem.Str.ofString "product", topS 5, [PySem.Str.ofString "one", PySem.Str.ofString "other"], [PySem.Str.ofString "one", PySem.Str.ofString "other"], ⟨2, 2, b_product, true⟩, false⟩
def i_is_less : Nat := 4
def d_is_less : Def := ⟨PySem.Str.ofString "is_less", PySem.Str.ofString "is_less", topS 6, [PySem.Str.ofString "one", PySem.Str.ofString "other"], [PySem.Str.ofString "one", PySem.Str.ofString "other"], ⟨2, 2, b_is_less, true⟩, false⟩
def i_greater_of : Nat := 5
def d_greater_of : Def := ⟨PySem.Str.ofString "greater_of", PySem.Str.ofString "greater_of", topS 7, [PySem.Str.ofString "one", PySem.Str.ofString "other"], [PySem.Str.ofString "one", PySem.Str.ofString "other"], ⟨2, 2, b_greater_of, true⟩, false⟩
def i_gap_size : Nat := 6
def d_gap_size : Def := ⟨PySem.Str.ofString "gap_size", PySem.Str.ofString "gap_size", topS 8, [PySem.Str.ofString "one", PySem.Str.ofString "other"], [PySem.Str.ofString "one", PySem.Str.ofString "other"], ⟨2, 2, b_gap_size, true⟩, false⟩
def i_rounded_up : Nat := 7
def d_rounded_up : Def := ⟨PySem.Str.ofString "rounded_up", PySem.Str.ofString "rounded_up", topS 9, [PySem.Str.ofString "one"], [PySem.Str.ofString "one"], ⟨1, 1, b_rounded_up, true⟩, false⟩
def i_forth_of : Nat := 8
def d_forth_of : Def := ⟨PySem.Str.ofString "forth_of", PySem.Str.ofString "forth_of", topS 11, [PySem.Str.ofString "road"], [PySem.Str.ofString "road"], ⟨1, 1, b_forth_of, true⟩, false⟩
def i_back_of : Nat := 9
def d_back_of : Def := ⟨PySem.Str.ofString "back_of", PySem.Str.ofString "back_of", topS 12, [PySem.Str.ofString "road"], [PySem.Str.ofString "road"], ⟨1, 1, b_back_of, true⟩, false⟩
def i_least_trip : Nat := 10
def d_least_trip : Def := ⟨PySem.Str.ofString "least_trip", PySem.Str.ofString "least_trip", topS 13, [PySem.Str.ofString "road"], [PySem.Str.ofString "road"], ⟨1, 1, b_least_trip, true⟩, false⟩
def i_most_trip : Nat := 11
def d_most_trip : Def := ⟨PySem.Str.ofString "most_trip", PySem.Str.ofString "most_trip", topS 14, [PySem.Str.ofString "road"], [PySem.Str.ofString "road"], ⟨1, 1, b_most_trip, true⟩, false⟩
def i_width_of : Nat := 12
def d_width_of : Def := ⟨PySem.Str.ofString "width_of", PySem.Str.ofString "width_of", topS 15, [PySem.Str.ofString "road"], [PySem.Str.ofString "road"], ⟨1, 1, b_width_of, true⟩, false⟩
def i_smoothed : Nat := 13
def d_smoothed : Def := ⟨PySem.Str.ofString "smoothed", PySem.Str.ofString "smoothed", topS 17, [PySem.Str.ofString "smooth", PySem.Str.ofString "spread", PySem.Str.ofString "sample", PySem.Str.ofString "told"], [PySem.Str.ofString "smooth", PySem.Str.ofString "spread", PySem.Str.ofString "sample"], ⟨3, 4, b_smoothed, true⟩, false⟩
def i_first_pair : Nat := 14
def d_first_pair : Def := ⟨PySem.Str.ofString "first_pair", PySem.Str.ofString "first_pair", topS 18, [PySem.Str.ofString "sample"], [PySem.Str.ofString "sample"], ⟨1, 1, b_first_pair, true⟩, false⟩
def i_length_of : Nat := 15
def d_length_of : Def := ⟨PySem.Str.ofString "length_of", PySem.Str.ofString "length_of", topS 19, [PySem.Str.ofString "smooth", PySem.Str.ofString "spread", PySem.Str.ofString "grain"], [PySem.Str.ofString "smooth", PySem.Str.ofString "spread", PySem.Str.ofString "grain"], ⟨3, 3, b_length_of, true⟩, false⟩
def i_lengths : Nat := 16
def d_lengths : Def := ⟨PySem.Str.ofString "lengths", PySem.Str.ofString "lengths", topS 20, [PySem.Str.ofString "samples", PySem.Str.ofString "found", PySem.Str.ofString "sample", PySem.Str.ofString "smooth", PySem.Str.ofString "spread"], [PySem.Str.ofString "samples"], ⟨1, 5, b_lengths, true⟩, false⟩
def i_least_length : Nat := 17
def d_least_length : Def := ⟨PySem.Str.ofString "least_length", PySem.Str.ofString "least_length", topS 21, [PySem.Str.ofString "low", PySem.Str.ofString "high", PySem.Str.ofString "many", PySem.Str.ofString "grain", PySem.Str.ofString "smooth", PySem.Str.ofString "spread"], [PySem.Str.ofString "low", PySem.Str.ofString "high", PySem.Str.ofString "many", PySem.Str.ofString "grain"], ⟨4, 6, b_least_length, true⟩, false⟩
def i_spreads : Nat := 18
def d_spreads : Def := ⟨PySem.Str.ofString "spreads", PySem.Str.ofString "spreads", topS 23, [PySem.Str.ofString "book", PySem.Str.ofString "road", PySem.Str.ofString "many", PySem.Str.ofString "gap", PySem.Str.ofString "most", PySem.Str.ofString "found", PySem.Str.ofString "j", PySem.Str.ofString "tick"], [PySem.Str.ofString "book", PySem.Str.ofString "road", PySem.Str.ofString "many"], ⟨3, 8, b_spreads, true⟩, false⟩
def i_first_length : Nat := 19
def d_first_length : Def := ⟨PySem.Str.ofString "first_length", PySem.Str.ofString "first_length", topS 24, [PySem.Str.ofString "book"], [PySem.Str.ofString "book"], ⟨1, 1, b_first_length, true⟩, false⟩
def i_patience_of : Nat := 20
def d_patience_of : Def := ⟨PySem.Str.ofString "patience_of", PySem.Str.ofString "patience_of", topS 25, [PySem.Str.ofString "book", PySem.Str.ofString "road"], [PySem.Str.ofString "book", PySem.Str.ofString "road"], ⟨2, 2, b_patience_of, true⟩, false⟩
def i_is_timed : Nat := 21
def d_is_timed : Def := ⟨PySem.Str.ofString "is_timed", PySem.Str.ofString "is_timed", topS 26, [PySem.Str.ofString "book", PySem.Str.ofString "road"], [PySem.Str.ofString "book", PySem.Str.ofString "road"], ⟨2, 2, b_is_timed, true⟩, false⟩
def i_first_fault : Nat := 22
def d_first_fault : Def := ⟨PySem.Str.ofString "first_fault", PySem.Str.ofString "first_fault", topS 27, [PySem.Str.ofString "book", PySem.Str.ofString "road"], [PySem.Str.ofString "book", PySem.Str.ofString "road"], ⟨2, 2, b_first_fault, true⟩, false⟩
def i_pause_of : Nat := 23
def d_pause_of : Def := ⟨PySem.Str.ofString "pause_of", PySem.Str.ofString "pause_of", topS 28, [PySem.Str.ofString "book", PySem.Str.ofString "road"], [PySem.Str.ofString "book", PySem.Str.ofString "road"], ⟨2, 2, b_pause_of, true⟩, false⟩
def i_grown_to_most : Nat := 24
def d_grown_to_most : Def := ⟨PySem.Str.ofString "grown_to_most", PySem.Str.ofString "grown_to_most", topS 29, [PySem.Str.ofString "book", PySem.Str.ofString "road", PySem.Str.ofString "many", PySem.Str.ofString "pause", PySem.Str.ofString "at"], [PySem.Str.ofString "book", PySem.Str.ofString "road"], ⟨2, 5, b_grown_to_most, true⟩, true⟩
def i_timer_case : Nat := 25
def d_timer_case : Def := ⟨PySem.Str.ofString "timer_case", PySem.Str.ofString "timer_case", topS 30, [PySem.Str.ofString "book", PySem.Str.ofString "road", PySem.Str.ofString "least", PySem.Str.ofString "many", PySem.Str.ofString "ticks", PySem.Str.ofString "at"], [PySem.Str.ofString "book", PySem.Str.ofString "road"], ⟨2, 6, b_timer_case, true⟩, true⟩
def i_number_case : Nat := 26
def d_number_case : Def := ⟨PySem.Str.ofString "number_case", PySem.Str.ofString "number_case", topS 31, [PySem.Str.ofString "book", PySem.Str.ofString "road", PySem.Str.ofString "lo", PySem.Str.ofString "hi", PySem.Str.ofString "ticks", PySem.Str.ofString "later", PySem.Str.ofString "forth"], [PySem.Str.ofString "book", PySem.Str.ofString "road"], ⟨2, 7, b_number_case, true⟩, false⟩
def i_time_case : Nat := 27
def d_time_case : Def := ⟨PySem.Str.ofString "time_case", PySem.Str.ofString "time_case", topS 32, [PySem.Str.ofString "book", PySem.Str.ofString "road", PySem.Str.ofString "lo", PySem.Str.ofString "hi", PySem.Str.ofString "low", PySem.Str.ofString "high", PySem.Str.ofString "later"], [PySem.Str.ofString "book", PySem.Str.ofString "road"], ⟨2, 7, b_time_case, true⟩, false⟩
def i_sure : Nat := 28
def d_sure : Def := ⟨PySem.Str.ofString "sure", PySem.Str.ofString "sure", topS 33, [PySem.Str.ofString "book", PySem.Str.ofString "road", PySem.Str.ofString "fault", PySem.Str.ofString "case"], [PySem.Str.ofString "book", PySem.Str.ofString "road"], ⟨2, 4, b_sure, true⟩, false⟩
def i_with_items : Nat := 29
def d_with_items : Def := ⟨PySem.Str.ofString "with_items", PySem.Str.ofString "with_items", topS 38, [PySem.Str.ofString "book", PySem.Str.ofString "items", PySem.Str.ofString "found", PySem.Str.ofString "place", PySem.Str.ofString "item"], [PySem.Str.ofString "book", PySem.Str.ofString "items"], ⟨2, 5, b_with_items, true⟩, false⟩
def i_with_timers : Nat := 30
def d_with_timers : Def := ⟨PySem.Str.ofString "with_timers", PySem.Str.ofString "with_timers", topS 39, [PySem.Str.ofString "book", PySem.Str.ofString "road", PySem.Str.ofString "grain", PySem.Str.ofString "first"], [PySem.Str.ofString "book", PySem.Str.ofString "road"], ⟨2, 4, b_with_timers, true⟩, false⟩
def i_with_theta : Nat := 31
def d_with_theta : Def := ⟨PySem.Str.ofString "with_theta", PySem.Str.ofString "with_theta", topS 40, [PySem.Str.ofString "book", PySem.Str.ofString "road", PySem.Str.ofString "eighths", PySem.Str.ofString "made"], [PySem.Str.ofString "book", PySem.Str.ofString "road"], ⟨2, 4, b_with_theta, true⟩, false⟩
def i_mended : Nat := 32
def d_mended : Def := ⟨PySem.Str.ofString "mended", PySem.Str.ofString "mended", topS 41, [PySem.Str.ofString "book", PySem.Str.ofString "road", PySem.Str.ofString "made", PySem.Str.ofString "k"], [PySem.Str.ofString "book", PySem.Str.ofString "road"], ⟨2, 4, b_mended, true⟩, false⟩
def i__law_bag : Nat := 33
def d__law_bag : Def := ⟨PySem.Str.ofString "_law_bag", PySem.Str.ofString "_law_bag", topS 43, [PySem.Str.ofString "script", PySem.Str.ofString "cells", PySem.Str.ofString "great", PySem.Str.ofString "cell"], [PySem.Str.ofString "script"], ⟨1, 4, b__law_bag, false⟩, false⟩
def i__law_draw : Nat := 34
def d__law_draw : Def := ⟨PySem.Str.ofString "_law_draw", PySem.Str.ofString "_law_draw", topS 44, [PySem.Str.ofString "bag", PySem.Str.ofString "many", PySem.Str.ofString "digit", PySem.Str.ofString "cell", PySem.Str.ofString "mixed"], [PySem.Str.ofString "bag", PySem.Str.ofString "many"], ⟨2, 5, b__law_draw, false⟩, false⟩
def i__law_pick : Nat := 35
def d__law_pick : Def := ⟨PySem.Str.ofString "_law_pick", PySem.Str.ofString "_law_pick", topS 45, [PySem.Str.ofString "bag", PySem.Str.ofString "some"], [PySem.Str.ofString "bag", PySem.Str.ofString "some"], ⟨2, 2, b__law_pick, false⟩, false⟩
def i__law_same : Nat := 36
def d__law_same : Def := ⟨PySem.Str.ofString "_law_same", PySem.Str.ofString "_law_same", topS 46, [PySem.Str.ofString "found", PySem.Str.ofString "due", PySem.Str.ofString "k"], [PySem.Str.ofString "found", PySem.Str.ofString "due"], ⟨2, 3, b__law_same, true⟩, false⟩
def i__law_gcd : Nat := 37
def d__law_gcd : Def := ⟨PySem.Str.ofString "_law_gcd", PySem.Str.ofString "_law_gcd", topS 47, [PySem.Str.ofString "a", PySem.Str.ofString "b"], [PySem.Str.ofString "a", PySem.Str.ofString "b"], ⟨2, 2, b__law_gcd, true⟩, false⟩
def i__law_fr : Nat := 38
def d__law_fr : Def := ⟨PySem.Str.ofString "_law_fr", PySem.Str.ofString "_law_fr", topS 48, [PySem.Str.ofString "a", PySem.Str.ofString "b", PySem.Str.ofString "by"], [PySem.Str.ofString "a", PySem.Str.ofString "b"], ⟨2, 3, b__law_fr, true⟩, false⟩
def i__law_times : Nat := 39
def d__law_times : Def := ⟨PySem.Str.ofString "_law_times", PySem.Str.ofString "_law_times", topS 49, [PySem.Str.ofString "a", PySem.Str.ofString "b"], [PySem.Str.ofString "a", PySem.Str.ofString "b"], ⟨2, 2, b__law_times, true⟩, false⟩
def i__law_more : Nat := 40
def d__law_more : Def := ⟨PySem.Str.ofString "_law_more", PySem.Str.ofString "_law_more", topS 50, [PySem.Str.ofString "a", PySem.Str.ofString "b"], [PySem.Str.ofString "a", PySem.Str.ofString "b"], ⟨2, 2, b__law_more, true⟩, false⟩
def i__law_up : Nat := 41
def d__law_up : Def := ⟨PySem.Str.ofString "_law_up", PySem.Str.ofString "_law_up", topS 51, [PySem.Str.ofString "a"], [PySem.Str.ofString "a"], ⟨1, 1, b__law_up, true⟩, false⟩
def i__law_road : Nat := 42
def d__law_road : Def := ⟨PySem.Str.ofString "_law_road", PySem.Str.ofString "_law_road", topS 52, [PySem.Str.ofString "bag", PySem.Str.ofString "most", PySem.Str.ofString "wide", PySem.Str.ofString "lo", PySem.Str.ofString "low"], [PySem.Str.ofString "bag", PySem.Str.ofString "most", PySem.Str.ofString "wide"], ⟨3, 5, b__law_road, false⟩, false⟩
def i__law_book : Nat := 43
def d__law_book : Def := ⟨PySem.Str.ofString "_law_book", PySem.Str.ofString "_law_book", topS 53, [PySem.Str.ofString "bag", PySem.Str.ofString "rules", PySem.Str.ofString "waits", PySem.Str.ofString "least", PySem.Str.ofString "start", PySem.Str.ofString "most", PySem.Str.ofString "theta", PySem.Str.ofString "cut", PySem.Str.ofString "head"], [PySem.Str.ofString "bag", PySem.Str.ofString "rules", PySem.Str.ofString "waits"], ⟨3, 9, b__law_book, false⟩, false⟩
def i__law_s : Nat := 44
def d__law_s : Def := ⟨PySem.Str.ofString "_law_s", PySem.Str.ofString "_law_s", topS 54, [PySem.Str.ofString "book", PySem.Str.ofString "road", PySem.Str.ofString "many", PySem.Str.ofString "out", PySem.Str.ofString "j", PySem.Str.ofString "moment"], [PySem.Str.ofString "book", PySem.Str.ofString "road", PySem.Str.ofString "many"], ⟨3, 6, b__law_s, true⟩, false⟩
def i__law_fault : Nat := 45
def d__law_fault : Def := ⟨PySem.Str.ofString "_law_fault", PySem.Str.ofString "_law_fault", topS 55, [PySem.Str.ofString "book", PySem.Str.ofString "road", PySem.Str.ofString "trip", PySem.Str.ofString "most", PySem.Str.ofString "wide"], [PySem.Str.ofString "book", PySem.Str.ofString "road"], ⟨2, 5, b__law_fault, true⟩, false⟩
def i__law_made_sure : Nat := 46
def d__law_made_sure : Def := ⟨PySem.Str.ofString "_law_made_sure", PySem.Str.ofString "_law_made_sure", topS 56, [PySem.Str.ofString "book", PySem.Str.ofString "road", PySem.Str.ofString "items"], [PySem.Str.ofString "book", PySem.Str.ofString "road"], ⟨2, 3, b__law_made_sure, true⟩, false⟩
def i__law_some_road : Nat := 47
def d__law_some_road : Def := ⟨PySem.Str.ofString "_law_some_road", PySem.Str.ofString "_law_some_road", topS 57, [PySem.Str.ofString "bag", PySem.Str.ofString "way", PySem.Str.ofString "lo", PySem.Str.ofString "low"], [PySem.Str.ofString "bag"], ⟨1, 4, b__law_some_road, false⟩, false⟩
def i__law_theta_will_do : Nat := 48
def d__law_theta_will_do : Def := ⟨PySem.Str.ofString "_law_theta_will_do", PySem.Str.ofString "_law_theta_will_do", topS 58, [PySem.Str.ofString "book", PySem.Str.ofString "road", PySem.Str.ofString "grain", PySem.Str.ofString "theta", PySem.Str.ofString "wide"], [PySem.Str.ofString "book", PySem.Str.ofString "road", PySem.Str.ofString "grain", PySem.Str.ofString "theta"], ⟨4, 5, b__law_theta_will_do, true⟩, false⟩
def i__law_mended : Nat := 49
def d__law_mended : Def := ⟨PySem.Str.ofString "_law_mended", PySem.Str.ofString "_law_mended", topS 59, [PySem.Str.ofString "book", PySem.Str.ofString "road", PySem.Str.ofString "most", PySem.Str.ofString "trip", PySem.Str.ofString "wide", PySem.Str.ofString "items", PySem.Str.ofString "theta", PySem.Str.ofString "eighths", PySem.Str.ofString "k"], [PySem.Str.ofString "book", PySem.Str.ofString "road"], ⟨2, 9, b__law_mended, true⟩, false⟩
def i__law_less : Nat := 50
def d__law_less : Def := ⟨PySem.Str.ofString "_law_less", PySem.Str.ofString "_law_less", topS 60, [PySem.Str.ofString "book", PySem.Str.ofString "due", PySem.Str.ofString "found", PySem.Str.ofString "place", PySem.Str.ofString "items"], [PySem.Str.ofString "book", PySem.Str.ofString "due"], ⟨2, 5, b__law_less, false⟩, false⟩
def i_law : Nat := 51
def d_law : Def := ⟨PySem.Str.ofString "law", PySem.Str.ofString "law", topS 61, [PySem.Str.ofString "script", PySem.Str.ofString "bag", PySem.Str.ofString "lap", PySem.Str.ofString "book", PySem.Str.ofString "road", PySem.Str.ofString "due", PySem.Str.ofString "other", PySem.Str.ofString "found"], [PySem.Str.ofString "script"], ⟨1, 8, b_law, false⟩, false⟩
def T : List Def := [d_divisor, d_lowest, d_plus, d_product, d_is_less, d_greater_of, d_gap_size, d_rounded_up, d_forth_of, d_back_of, d_least_trip, d_most_trip, d_width_of, d_smoothed, d_first_pair, d_length_of, d_lengths, d_least_length, d_spreads, d_first_length, d_patience_of, d_is_timed, d_first_fault, d_pause_of, d_grown_to_most, d_timer_case, d_number_case, d_time_case, d_sure, d_with_items, d_with_timers, d_with_theta, d_mended, d__law_bag, d__law_draw, d__law_pick, d__law_same, d__law_gcd, d__law_fr, d__law_times, d__law_more, d__law_up, d__law_road, d__law_book, d__law_s, d__law_fault, d__law_made_sure, d__law_some_road, d__law_theta_will_do, d__law_mended, d__law_less, d_law]
def bl : List Str := [PySem.Str.ofString "abs", PySem.Str.ofString "tuple", PySem.Str.ofString "range", PySem.Str.ofString "max", PySem.Str.ofString "len", PySem.Str.ofString "list", PySem.Str.ofString "int", PySem.Str.ofString "isinstance", PySem.Str.ofString "str", PySem.Str.ofString "bool"]
def kw : Kws := [(28, 0, [PySem.Str.ofString "road", PySem.Str.ofString "book"], [1, 0]), (32, 0, [PySem.Str.ofString "road", PySem.Str.ofString "book"], [1, 0])]
def co : Cos := [(PySem.Str.ofString "MOST_GRAIN", .int 1000), (PySem.Str.ofString "MOST_EIGHTHS", .int 72), (PySem.Str.ofString "MOST_K", .int 9)]
noncomputable abbrev P : Prg := prg T
end LW
namespace LW
abbrev LV : Nat := 28
end LW
namespace LW
open PySem PySem.Spec PyProof.Rows L2 SX
theorem s_divisor : DefS T bl kw co d_divisor := ⟨⟨rfl, rfl, rfl, by decide +kernel, rfl, by decide +kernel, by decide +kernel⟩, by decide +kernel⟩
theorem s_lowest : DefS T bl kw co d_lowest := ⟨⟨rfl, rfl, rfl, by decide +kernel, rfl, by decide +kernel, by decide +kernel⟩, by decide +kernel⟩
theorem s_plus : DefS T bl kw co d_plus := ⟨⟨rfl, rfl, rfl, by decide +kernel, rfl, by decide +kernel, by decide +kernel⟩, by decide +kernel⟩
theorem s_product : DefS T bl kw co d_product := ⟨⟨rfl, rfl, rfl, by decide +kernel, rfl, by decide +kernel, by decide +kernel⟩, by decide +kernel⟩
theorem s_is_less : DefS T bl kw co d_is_less := ⟨⟨rfl, rfl, rfl, by decide +kernel, rfl, by decide +kernel, by decide +kernel⟩, by decide +kernel⟩
theorem s_greater_of : DefS T bl kw co d_greater_of := ⟨⟨rfl, rfl, rfl, by decide +kernel, rfl, by decide +kernel, by decide +kernel⟩, by decide +kernel⟩
theorem s_gap_size : DefS T bl kw co d_gap_size := ⟨⟨rfl, rfl, rfl, by decide +kernel, rfl, by decide +kernel, by decide +kernel⟩, by decide +kernel⟩
theorem s_rounded_up : DefS T bl kw co d_rounded_up := ⟨⟨rfl, rfl, rfl, by decide +kernel, rfl, by decide +kernel, by decide +kernel⟩, by decide +kernel⟩
theorem s_forth_of : DefS T bl kw co d_forth_of := ⟨⟨rfl, rfl, rfl, by decide +kernel, rfl, by decide +kernel, by decide +kernel⟩, by decide +kernel⟩
theorem s_back_of : DefS T bl kw co d_back_of := ⟨⟨rfl, rfl, rfl, by decide +kernel, rfl, by decide +kernel, by decide +kernel⟩, by decide +kernel⟩
theorem s_least_trip : DefS T bl kw co d_least_trip := ⟨⟨rfl, rfl, rfl, by decide +kernel, rfl, by decide +kernel, by decide +kernel⟩, by decide +kernel⟩
theorem s_most_trip : DefS T bl kw co d_most_trip := ⟨⟨rfl, rfl, rfl, by decide +kernel, rfl, by decide +kernel, by decide +kernel⟩, by decide +kernel⟩
theorem s_width_of : DefS T bl kw co d_width_of := ⟨⟨rfl, rfl, rfl, by decide +kernel, rfl, by decide +kernel, by decide +kernel⟩, by decide +kernel⟩
theorem s_smoothed : DefS T bl kw co d_smoothed := ⟨⟨rfl, rfl, rfl, by decide +kernel, rfl, by decide +kernel, by decide +kernel⟩, by decide +kernel⟩
theorem s_first_pair : DefS T bl kw co d_first_pair := ⟨⟨rfl, rfl, rfl, by decide +kernel, rfl, by decide +kernel, by decide +kernel⟩, by decide +kernel⟩
theorem s_length_of : DefS T bl kw co d_length_of := ⟨⟨rfl, rfl, rfl, by decide +kernel, rfl, by decide +kernel, by decide +kernel⟩, by decide +kernel⟩
theorem s_lengths : DefS T bl kw co d_lengths := ⟨⟨rfl, rfl, rfl, by decide +kernel, rfl, by decide +kernel, by decide +kernel⟩, by decide +kernel⟩
theorem s_least_length : DefS T bl kw co d_least_length := ⟨⟨rfl, rfl, rfl, by decide +kernel, rfl, by decide +kernel, by decide +kernel⟩, by decide +kernel⟩
theorem s_spreads : DefS T bl kw co d_spreads := ⟨⟨rfl, rfl, rfl, by decide +kernel, rfl, by decide +kernel, by decide +kernel⟩, by decide +kernel⟩
theorem s_first_length : DefS T bl kw co d_first_length := ⟨⟨rfl, rfl, rfl, by decide +kernel, rfl, by decide +kernel, by decide +kernel⟩, by decide +kernel⟩
theorem s_patience_of : DefS T bl kw co d_patience_of := ⟨⟨rfl, rfl, rfl, by decide +kernel, rfl, by decide +kernel, by decide +kernel⟩, by decide +kernel⟩
theorem s_is_timed : DefS T bl kw co d_is_timed := ⟨⟨rfl, rfl, rfl, by decide +kernel, rfl, by decide +kernel, by decide +kernel⟩, by decide +kernel⟩
theorem s_first_fault : DefS T bl kw co d_first_fault := ⟨⟨rfl, rfl, rfl, by decide +kernel, rfl, by decide +kernel, by decide +kernel⟩, by decide +kernel⟩
theorem s_pause_of : DefS T bl kw co d_pause_of := ⟨⟨rfl, rfl, rfl, by decide +kernel, rfl, by decide +kernel, by decide +kernel⟩, by decide +kernel⟩
theorem s_grown_to_most : DefS T bl kw co d_grown_to_most := ⟨⟨rfl, rfl, rfl, by decide +kernel, rfl, by decide +kernel, by decide +kernel⟩, by decide +kernel⟩
theorem s_timer_case : DefS T bl kw co d_timer_case := ⟨⟨rfl, rfl, rfl, by decide +kernel, rfl, by decide +kernel, by decide +kernel⟩, by decide +kernel⟩
theorem s_number_case : DefS T bl kw co d_number_case := ⟨⟨rfl, rfl, rfl, by decide +kernel, rfl, by decide +kernel, by decide +kernel⟩, by decide +kernel⟩
theorem s_time_case : DefS T bl kw co d_time_case := ⟨⟨rfl, rfl, rfl, by decide +kernel, rfl, by decide +kernel, by decide +kernel⟩, by decide +kernel⟩
theorem s_sure : DefS T bl kw co d_sure := ⟨⟨rfl, rfl, rfl, by decide +kernel, rfl, by decide +kernel, by decide +kernel⟩, by decide +kernel⟩
theorem s_with_items : DefS T bl kw co d_with_items := ⟨⟨rfl, rfl, rfl, by decide +kernel, rfl, by decide +kernel, by decide +kernel⟩, by decide +kernel⟩
theorem s_with_timers : DefS T bl kw co d_with_timers := ⟨⟨rfl, rfl, rfl, by decide +kernel, rfl, by decide +kernel, by decide +kernel⟩, by decide +kernel⟩
theorem s_with_theta : DefS T bl kw co d_with_theta := ⟨⟨rfl, rfl, rfl, by decide +kernel, rfl, by decide +kernel, by decide +kernel⟩, by decide +kernel⟩
theorem s_mended : DefS T bl kw co d_mended := ⟨⟨rfl, rfl, rfl, by decide +kernel, rfl, by decide +kernel, by decide +kernel⟩, by decide +kernel⟩
theorem s__law_bag : DefS T bl kw co d__law_bag := ⟨⟨rfl, rfl, rfl, by decide +kernel, rfl, by decide +kernel, by decide +kernel⟩, by decide +kernel⟩
theorem s__law_draw : DefS T bl kw co d__law_draw := ⟨⟨rfl, rfl, rfl, by decide +kernel, rfl, by decide +kernel, by decide +kernel⟩, by decide +kernel⟩
theorem s__law_pick : DefS T bl kw co d__law_pick := ⟨⟨rfl, rfl, rfl, by decide +kernel, rfl, by decide +kernel, by decide +kernel⟩, by decide +kernel⟩
theorem s__law_same : DefS T bl kw co d__law_same := ⟨⟨rfl, rfl, rfl, by decide +kernel, rfl, by decide +kernel, by decide +kernel⟩, by decide +kernel⟩
theorem s__law_gcd : DefS T bl kw co d__law_gcd := ⟨⟨rfl, rfl, rfl, by decide +kernel, rfl, by decide +kernel, by decide +kernel⟩, by decide +kernel⟩
theorem s__law_fr : DefS T bl kw co d__law_fr := ⟨⟨rfl, rfl, rfl, by decide +kernel, rfl, by decide +kernel, by decide +kernel⟩, by decide +kernel⟩
theorem s__law_times : DefS T bl kw co d__law_times := ⟨⟨rfl, rfl, rfl, by decide +kernel, rfl, by decide +kernel, by decide +kernel⟩, by decide +kernel⟩
theorem s__law_more : DefS T bl kw co d__law_more := ⟨⟨rfl, rfl, rfl, by decide +kernel, rfl, by decide +kernel, by decide +kernel⟩, by decide +kernel⟩
theorem s__law_up : DefS T bl kw co d__law_up := ⟨⟨rfl, rfl, rfl, by decide +kernel, rfl, by decide +kernel, by decide +kernel⟩, by decide +kernel⟩
theorem s__law_road : DefS T bl kw co d__law_road := ⟨⟨rfl, rfl, rfl, by decide +kernel, rfl, by decide +kernel, by decide +kernel⟩, by decide +kernel⟩
theorem s__law_book : DefS T bl kw co d__law_book := ⟨⟨rfl, rfl, rfl, by decide +kernel, rfl, by decide +kernel, by decide +kernel⟩, by decide +kernel⟩
theorem s__law_s : DefS T bl kw co d__law_s := ⟨⟨rfl, rfl, rfl, by decide +kernel, rfl, by decide +kernel, by decide +kernel⟩, by decide +kernel⟩
theorem s__law_fault : DefS T bl kw co d__law_fault := ⟨⟨rfl, rfl, rfl, by decide +kernel, rfl, by decide +kernel, by decide +kernel⟩, by decide +kernel⟩
theorem s__law_made_sure : DefS T bl kw co d__law_made_sure := ⟨⟨rfl, rfl, rfl, by decide +kernel, rfl, by decide +kernel, by decide +kernel⟩, by decide +kernel⟩
theorem s__law_some_road : DefS T bl kw co d__law_some_road := ⟨⟨rfl, rfl, rfl, by decide +kernel, rfl, by decide +kernel, by decide +kernel⟩, by decide +kernel⟩
theorem s__law_theta_will_do : DefS T bl kw co d__law_theta_will_do := ⟨⟨rfl, rfl, rfl, by decide +kernel, rfl, by decide +kernel, by decide +kernel⟩, by decide +kernel⟩
theorem s__law_mended : DefS T bl kw co d__law_mended := ⟨⟨rfl, rfl, rfl, by decide +kernel, rfl, by decide +kernel, by decide +kernel⟩, by decide +kernel⟩
theorem s__law_less : DefS T bl kw co d__law_less := ⟨⟨rfl, rfl, rfl, by decide +kernel, rfl, by decide +kernel, by decide +kernel⟩, by decide +kernel⟩
theorem s_law : DefS T bl kw co d_law := ⟨⟨rfl, rfl, rfl, by decide +kernel, rfl, by decide +kernel, by decide +kernel⟩, by decide +kernel⟩
theorem hs : ∀ (f : Nat) (d : Def), T[f]? = some d → DefS T bl kw co d := fun f d h => all_mem (all_cons s_divisor (all_cons s_lowest (all_cons s_plus (all_cons s_product (all_cons s_is_less (all_cons s_greater_of (all_cons s_gap_size (all_cons s_rounded_up (all_cons s_forth_of (all_cons s_back_of (all_cons s_least_trip (all_cons s_most_trip (all_cons s_width_of (all_cons s_smoothed (all_cons s_first_pair (all_cons s_length_of (all_cons s_lengths (all_cons s_least_length (all_cons s_spreads (all_cons s_first_length (all_cons s_patience_of (all_cons s_is_timed (all_cons s_first_fault (all_cons s_pause_of (all_cons s_grown_to_most (all_cons s_timer_case (all_cons s_number_case (all_cons s_time_case (all_cons s_sure (all_cons s_with_items (all_cons s_with_timers (all_cons s_with_theta (all_cons s_mended (all_cons s__law_bag (all_cons s__law_draw (all_cons s__law_pick (all_cons s__law_same (all_cons s__law_gcd (all_cons s__law_fr (all_cons s__law_times (all_cons s__law_more (all_cons s__law_up (all_cons s__law_road (all_cons s__law_book (all_cons s__law_s (all_cons s__law_fault (all_cons s__law_made_sure (all_cons s__law_some_road (all_cons s__law_theta_will_do (all_cons s__law_mended (all_cons s__law_less (all_cons s_law (all_nil))))))))))))))))))))))))))))))))))))))))))))))))))))) d (List.mem_of_getElem? h)
end LW
namespace LW
open PySem PySem.Spec PyProof.Rows L2 SX
noncomputable section
open Classical
local macro_rules | `(tactic| walk_at "ev") => `(tactic| simp (config := { maxSteps := 3000000 }) (disch := first | assumption | omega | exact ⟨by omega, by omega⟩ | exact ⟨⟨by omega, by omega⟩, ⟨by omega, by omega⟩⟩ | exact Nat.le_of_ble_eq_true rfl | decide) only [bk0, bk1, bk2, bk3, bk4, bk5, bk6, bk7, bk8, bk9, bk10, bk11, bk12, rd0, rd1, rd2, rd3, bnd_ok, bnd_bad, binJ_eq, binK_eq, notK_eq, cmpJ_eq, cmpK_eq, idxJ_eq, idxK_eq, calJ_eq, clkJ_eq, clkK_eq, priJ_eq, isiJ_eq, metJ_eq, metI_t, metK_eq, lcJ_eq, lcK_eq, conJ_eq, conK_eq, andJ_eq, orJ_eq, rg2J_eq, nxtK_eq, setI1_eq, setI2_eq, setI3_eq, retK_eq,  vE_var, varK_ok, vE_int, vE_bl, vE_non, vE_str, vE_tup, vE_lst, vE_bin, vE_neg, vE_not, vE_and, vE_or, vE_cmp, vE_ite, brE_t, brE_f, vE_idx, vE_slc, vE_call, vE_callk, vE_prim, vE_isin, vE_meth, vE_lc, vE_gcon, toD_int, toD_strs, vE_chain, chnI_eq, chnK_eq, chnJ_t, chnJ_f, vE_tupG, tgJ_eq, tgK_eq, vE_qual, qlK_eq, vE_sumG, smK_eq, vE_lc2, l2K_eq, vEs_nil, vEs_cons, vA_one, vA_cons, vO_one, vO_cons, andK_t, andK_f, orK_t, orK_f, vT_nil, vT_cons, vI_seq, seqK_tup, seqK_rls, seqK_loc, seqL_ok, vI_range1, rg1_int, vI_range2, rg2_int,
  xS_asg, asgK_nm, asgT_nm, asgT_tp2, asgT_tp3, asgK_tp2, asgK_tp3, xS_par, parK_2, parK_3, xS_setS, xS_aug, augV_ok, augK_add, augK_sub, xS_augS, agR_some, agD_eq, agX_eq, agI_eq, agO_eq, idxM_loc, augD_add, augD_sub, xS_expr, xS_ret, xS_retN, xS_ite, brS_t, brS_f, xS_wh, whB_t, whB_f, whK_n, whK_c, whK_b, whK_r, xS_fo, foT_some, foK_n, foK_c, foK_b, foK_r, xS_brk, xS_cont, xS_pass, xSs_nil, xSs_cons, sqK_n, sqK_r, sqK_b, sqK_c,
  b_add, b_sub, b_mul, b_mulL, b_mulR, b_fdiv, b_mod, b_pow, b_addT, b_addL, addL_ok, b_repT, k_lt, k_le, k_gt, k_ge, k_eq, k_ne, k_isN, k_notN, k_in, k_nin, tr_str, q_int, q_bl, q_str, ofB_some, Option.map_some, tr_bl, tr_int, tr_non, tr_tup, tr_loc, trK_ok, td_bl, td_int, td_tup, i_tup, i_rls, i_loc, idxL_ok, okV_some, at0, at1, at2, at3, at_m1, tupK_ok, lstK_ok, negK_int, p_abs, p_int, p_intB, p_lenT, p_lenR, p_lenL, lenL_ok, p_max, p_min, p_tupT, p_tupL, tupL_ok, p_lstT, p_lstL, lstL_ok, isD_ok, m_app, appL_ok, m_pop, popL_ok, m_rev, revL_ok, recv_ok, recvL_ok, set_loc, setL_ok, setI_ok, new_eq, Bool.not_true, Bool.not_false, if_true, eq_self, decide_true, decide_false,
  List.set_cons_zero, List.set_cons_succ, List.getElem?_cons_zero, List.getElem?_cons_succ, List.length_cons, List.length_nil, Option.some.injEq])
local macro_rules | `(tactic| walk_at "ev*") => `(tactic| simp (config := { maxSteps := 3000000 }) (disch := first | assumption | omega | exact ⟨by omega, by omega⟩ | exact ⟨⟨by omega, by omega⟩, ⟨by omega, by omega⟩⟩ | exact Nat.le_of_ble_eq_true rfl | decide) only [bk0, bk1, bk2, bk3, bk4, bk5, bk6, bk7, bk8, bk9, bk10, bk11, bk12, rd0, rd1, rd2, rd3, bnd_ok, bnd_bad, binJ_eq, binK_eq, notK_eq, cmpJ_eq, cmpK_eq, idxJ_eq, idxK_eq, calJ_eq, clkJ_eq, clkK_eq, priJ_eq, isiJ_eq, metJ_eq, metI_t, metK_eq, lcJ_eq, lcK_eq, conJ_eq, conK_eq, andJ_eq, orJ_eq, rg2J_eq, nxtK_eq, setI1_eq, setI2_eq, setI3_eq, retK_eq,  vE_var, varK_ok, vE_int, vE_bl, vE_non, vE_str, vE_tup, vE_lst, vE_bin, vE_neg, vE_not, vE_and, vE_or, vE_cmp, vE_ite, brE_t, brE_f, vE_idx, vE_slc, vE_call, vE_callk, vE_prim, vE_isin, vE_meth, vE_lc, vE_gcon, toD_int, toD_strs, vE_chain, chnI_eq, chnK_eq, chnJ_t, chnJ_f, vE_tupG, tgJ_eq, tgK_eq, vE_qual, qlK_eq, vE_sumG, smK_eq, vE_lc2, l2K_eq, vEs_nil, vEs_cons, vA_one, vA_cons, vO_one, vO_cons, andK_t, andK_f, orK_t, orK_f, vT_nil, vT_cons, vI_seq, seqK_tup, seqK_rls, seqK_loc, seqL_ok, vI_range1, rg1_int, vI_range2, rg2_int,
  xS_asg, asgK_nm, asgT_nm, asgT_tp2, asgT_tp3, asgK_tp2, asgK_tp3, xS_par, parK_2, parK_3, xS_setS, xS_aug, augV_ok, augK_add, augK_sub, xS_augS, agR_some, agD_eq, agX_eq, agI_eq, agO_eq, idxM_loc, augD_add, augD_sub, xS_expr, xS_ret, xS_retN, xS_ite, brS_t, brS_f, xS_wh, whB_t, whB_f, whK_n, whK_c, whK_b, whK_r, xS_fo, foT_some, foK_n, foK_c, foK_b, foK_r, xS_brk, xS_cont, xS_pass, xSs_nil, xSs_cons, sqK_n, sqK_r, sqK_b, sqK_c,
  b_add, b_sub, b_mul, b_mulL, b_mulR, b_fdiv, b_mod, b_pow, b_addT, b_addL, addL_ok, b_repT, k_lt, k_le, k_gt, k_ge, k_eq, k_ne, k_isN, k_notN, k_in, k_nin, tr_str, q_int, q_bl, q_str, ofB_some, Option.map_some, tr_bl, tr_int, tr_non, tr_tup, tr_loc, trK_ok, td_bl, td_int, td_tup, i_tup, i_rls, i_loc, idxL_ok, okV_some, at0, at1, at2, at3, at_m1, tupK_ok, lstK_ok, negK_int, p_abs, p_int, p_intB, p_lenT, p_lenR, p_lenL, lenL_ok, p_max, p_min, p_tupT, p_tupL, tupL_ok, p_lstT, p_lstL, lstL_ok, isD_ok, m_app, appL_ok, m_pop, popL_ok, m_rev, revL_ok, recv_ok, recvL_ok, set_loc, setL_ok, setI_ok, new_eq, Bool.not_true, Bool.not_false, if_true, eq_self, decide_true, decide_false,
  List.set_cons_zero, List.set_cons_succ, List.getElem?_cons_zero, List.getElem?_cons_succ, List.length_cons, List.length_nil, Option.some.injEq, *])
local macro_rules | `(tactic| walk_at "evs") => `(tactic| simp (config := { maxSteps := 3000000 }) (disch := first | assumption | omega | exact ⟨by omega, by omega⟩ | exact ⟨⟨by omega, by omega⟩, ⟨by omega, by omega⟩⟩ | exact Nat.le_of_ble_eq_true rfl | decide) only [bk0, bk1, bk2, bk3, bk4, bk5, bk6, bk7, bk8, bk9, bk10, bk11, bk12, rd0, rd1, rd2, rd3, bnd_ok, bnd_bad, binJ_eq, binK_eq, notK_eq, cmpJ_eq, cmpK_eq, idxJ_eq, idxK_eq, calJ_eq, clkJ_eq, clkK_eq, priJ_eq, isiJ_eq, metJ_eq, metI_t, metK_eq, lcJ_eq, lcK_eq, conJ_eq, conK_eq, andJ_eq, orJ_eq, rg2J_eq, nxtK_eq, setI1_eq, setI2_eq, setI3_eq, retK_eq,  vE_var, varK_ok, vE_int, vE_bl, vE_non, vE_str, vE_tup, vE_lst, vE_bin, vE_neg, vE_not, vE_and, vE_or, vE_cmp, vE_ite, brE_t, brE_f, vE_idx, vE_slc, vE_call, vE_callk, vE_prim, vE_isin, vE_meth, vE_lc, vE_gcon, toD_int, toD_strs, vE_chain, chnI_eq, chnK_eq, chnJ_t, chnJ_f, vE_tupG, tgJ_eq, tgK_eq, vE_qual, qlK_eq, vE_sumG, smK_eq, vE_lc2, l2K_eq, vEs_nil, vEs_cons, vA_one, vA_cons, vO_one, vO_cons, andK_t, andK_f, orK_t, orK_f, vT_nil, vT_cons, vI_seq, seqK_tup, seqK_rls, seqK_loc, seqL_ok, vI_range1, rg1_int, vI_range2, rg2_int,
  xS_asg, asgK_nm, asgT_nm, asgT_tp2, asgT_tp3, asgK_tp2, asgK_tp3, xS_par, parK_2, parK_3, xS_setS, xS_aug, augV_ok, augK_add, augK_sub, xS_augS, agR_some, agD_eq, agX_eq, agI_eq, agO_eq, idxM_loc, augD_add, augD_sub, xS_expr, xS_ret, xS_retN, xS_ite, brS_t, brS_f, xS_wh, whB_t, whB_f, whK_n, whK_c, whK_b, whK_r, xS_fo, foT_some, foK_n, foK_c, foK_b, foK_r, xS_brk, xS_cont, xS_pass, xSs_nil, xSs_cons, sqK_n, sqK_r, sqK_b, sqK_c,
  b_add, b_sub, b_mul, b_mulL, b_mulR, b_fdiv, b_mod, b_pow, b_addT, b_addL, addL_ok, b_repT, k_lt, k_le, k_gt, k_ge, k_eq, k_ne, k_isN, k_notN, k_in, k_nin, tr_str, q_int, q_bl, q_str, ofB_some, Option.map_some, tr_bl, tr_int, tr_non, tr_tup, tr_loc, trK_ok, td_bl, td_int, td_tup, i_tup, i_rls, i_loc, idxL_ok, okV_some, at0, at1, at2, at3, at_m1, tupK_ok, lstK_ok, negK_int, p_abs, p_int, p_intB, p_lenT, p_lenR, p_lenL, lenL_ok, p_max, p_min, p_tupT, p_tupL, tupL_ok, p_lstT, p_lstL, lstL_ok, isD_ok, m_app, appL_ok, m_pop, popL_ok, m_rev, revL_ok, recv_ok, recvL_ok, set_loc, setL_ok, setI_ok, new_eq, Bool.not_true, Bool.not_false, if_true, eq_self, decide_true, decide_false,
  List.set_cons_zero, List.set_cons_succ, List.getElem?_cons_zero, List.getElem?_cons_succ, List.length_cons, List.length_nil, Option.some.injEq, List.cons_append, List.nil_append, List.append_assoc, Nat.reduceAdd, st_get, st_get0, st_set, st_set0, List.length_append, Nat.add_zero, Nat.zero_add, *])

/-! ### the functions -/
theorem g0 : GcdOk P 0 := gcdOk_D rfl
theorem f1 : FrOk P 1 := frOk rfl g0
theorem pl2 : PlusOk P 2 := plusOk rfl f1
theorem ti3 : TimesOk P 3 := timesOk rfl f1
theorem mo5 : MoreOk P 5 := greaterOk rfl rfl
theorem gp6 : GapOk P 6 := gapOk rfl f1
theorem up7 : UpOk P 7 := upOk rfl
theorem fo8 : FoOk P 8 := foOk rfl
theorem ba9 : BaOk P 9 := baOk rfl
theorem lt10 : LtOk P 10 := ltOk rfl
theorem mt11 : MtOk P 11 := mtOk rfl
theorem wd12 : WdOk P 12 := wdOk rfl
theorem sm13 : SmOk P 13 := smOk rfl pl2 ti3 gp6
theorem fp14 : FpOk P 14 := fpOk rfl f1
theorem lo15 : LoOk P 15 := loOk rfl pl2 mo5 ti3
theorem ln16 : LnOk P 16 := lnOk rfl fp14 sm13
theorem le17 : LeOk P 17 := leOk rfl ln16 lo15
theorem sp18 : SpOk P 18 := spOk rfl lt10
theorem fl19 : FlOk P 19 := flOk rfl
theorem pa20 : PaOk P 20 := paOk rfl up7 mo5 ti3 lt10
theorem td21 : TdOk P 21 := tdOk rfl wd12 pa20 mt11
theorem fa22 : FaOk P 22 := faOk rfl fl19 mt11 lt10 sp18 wd12 td21
theorem pu23 : PuOk P 23 := puOk rfl lt10
theorem gm24 : GmOk P 24 := gmOk rfl pu23
theorem tc25 : TcOk P 25 := tcOk rfl lt10 up7 le17 mt11 pu23
theorem nc26 : NcOk P 26 := ncOk rfl fo8 gm24
theorem ic27 : IcOk P 27 := icOk rfl fo8 ba9 pu23
theorem su28 : SuOk P 28 := suOk rfl fa22 tc25 nc26 ic27
theorem wi29 : WiOk P 29 := wiOk rfl
theorem wt30 : WtOk P 30 := wtOk rfl mt11 lt10 fl19 wi29
theorem th31 : ThOk P 31 := thOk rfl td21 up7 ti3 wi29 f1
theorem me32 : MeOk P 32 := meOk rfl wt30 fa22 wi29 th31
theorem dr34 : DrawOk P 34 := drawOk rfl
theorem pk35 : PickOk P 35 := pickOk rfl dr34
theorem sa36 : SameOk P 36 := sameOk rfl
theorem g37 : GcdOk P 37 := gcdOk_W rfl
theorem f38 : FrOk P 38 := frOk rfl g37
theorem ti39 : TimesOk P 39 := timesOk rfl f38
theorem mo40 : MoreOk P 40 := moreOk rfl
theorem up41 : UpOk P 41 := lupOk rfl
theorem ls44 : LsOk P 44 := lsOk rfl
theorem lfa45 : ∀ (n : Nat) (b : Bk) (r : Rd) (S : Store), BkOk b → RdOk r → 1 ≤ b.mo → callN P (n + 4) 45 [bkD b, rdD r] S = .ok (.str (faultF b r)) S := lfaOk rfl ls44 up41 mo40 ti39

theorem get_app {S X : Store} {j : Nat} {o : SO} (h : S[j]? = some o) : (S ++ X)[j]? = some o := by
  rw [List.getElem?_append_left (List.getElem?_eq_some_iff.mp h).1]
  exact h
theorem seq_eq {F : Fns} {s : SX.St} {ss : Ss} {env : SX.Env} {S : Store} {R : Res (SX.Flow × SX.Env)} (env' : SX.Env) (S' : Store) (h : exS F s env S = .ok (.next, env') S') (q : exSs F ss env' S' = R) : exSs F (.cons s ss) env S = R := by
  rw [xSs_cons, h, bnd_ok, sqK_n]
  exact q
/-! ### the law's book -/
structure BookOk (b : Bk) : Prop extends BkOk b where
  gr2 : b.gr ≤ 900
  fi2 : b.fi ≤ 900
  k2 : b.k ≤ 9
  th2 : b.th.1 ≤ 9 * b.th.2
  th3 : b.th.2 ≤ b.th.1
theorem e_book (N : Nat) (hN : 2 ≤ N) (Sb G : Store) (l jr jw : Nat) (rs : List Str) (ws : List Int) (hB : Bag Sb l) (hr : (Sb ++ G)[jr]? = some (.lst (rs.map .str))) (hw : (Sb ++ G)[jw]? = some (.lst (ws.map .int))) (hr1 : Sb.length ≤ jr) (hw1 : Sb.length ≤ jw)
    (hr2 : rs ≠ []) (hw2 : ws ≠ []) (hr3 : rs.length ≤ 1000) (hw3 : ws.length ≤ 1000) (hw4 : ∀ w ∈ ws, 0 ≤ w ∧ w ≤ 1000) :
    ∃ b Sb' X, callN P (N + 1) 43 [.loc l, .loc jr, .loc jw] (Sb ++ G) = .ok (bkD b) (Sb' ++ (G ++ X)) ∧ BookOk b ∧ Bag Sb' l ∧ Sb'.length = Sb.length := by
  rw [callN_eq N _ _ (fd := ⟨3, 9, b__law_book, false⟩) rfl rfl (Nat.le_of_ble_eq_true rfl)]
  have moved : ∀ {S' X : Store} {j : Nat} {o : SO}, S'.length = Sb.length → Sb.length ≤ j → (Sb ++ G)[j]? = some o → (S' ++ (G ++ X))[j]? = some o := fun {S' X j o} hl hj h => by
    rw [List.getElem?_append_right hj] at h
    rw [List.getElem?_append_right (by omega), hl]
    exact get_app h
  obtain ⟨d1, Sb1, e1, a1, b1, B1, n1⟩ := draw_is dr34 N (by omega) l 3 Sb G hB (by decide) (by decide)
  obtain ⟨d2, Sb2, e2, a2, b2, B2, n2⟩ := draw_is dr34 N (by omega) l 3 Sb1 G B1 (by decide) (by decide)
  obtain ⟨d3, Sb3, e3, a3, b3, B3, n3⟩ := draw_is dr34 N (by omega) l 4 Sb2 G B2 (by decide) (by decide)
  obtain ⟨th, Sb4, e4, a4, B4, n4⟩ := pick_x pk35 N hN l [frD (1, 1), frD (9, 8), frD (3, 2), frD (2, 1), frD (9, 1)] Sb3 G B3 (by simp) (by simp)
  obtain ⟨cu, Sb5, e5, a5, B5, n5⟩ := pick_x pk35 N hN l [frD (1, 2), frD (7, 10), frD (1, 3), frD (99, 100)] Sb4 (G ++ [.lst [frD (1, 1), frD (9, 8), frD (3, 2), frD (2, 1), frD (9, 1)]]) B4 (by simp) (by simp)
  obtain ⟨X5, hX5⟩ : ∃ X5 : Store, G ++ [SO.lst [frD (1, 1), frD (9, 8), frD (3, 2), frD (2, 1), frD (9, 1)]] ++ [SO.lst [frD (1, 2), frD (7, 10), frD (1, 3), frD (99, 100)]] = G ++ X5 := ⟨_, List.append_assoc ..⟩
  rw [hX5] at e5
  obtain ⟨d6, Sb6, e6, a6, b6, B6, n6⟩ := draw_is dr34 N (by omega) l 4 Sb5 (G ++ X5) B5 (by decide) (by decide)
  obtain ⟨d7, Sb7, e7, a7, b7, B7, n7⟩ := draw_is dr34 N (by omega) l 12 Sb6 (G ++ X5) B6 (by decide) (by decide)
  obtain ⟨d8, Sb8, e8, a8, b8, B8, n8⟩ := draw_is dr34 N (by omega) l 8 Sb7 (G ++ X5) B7 (by decide) (by decide)
  obtain ⟨d9, Sb9, e9, a9, b9, B9, n9⟩ := draw_is dr34 N (by omega) l 2 Sb8 (G ++ X5) B8 (by decide) (by decide)
  obtain ⟨d10, Sb10, e10, a10, b10, B10, n10⟩ := draw_is dr34 N (by omega) l 3 Sb9 (G ++ X5) B9 (by decide) (by decide)
  obtain ⟨d11, Sb11, e11, a11, b11, B11, n11⟩ := draw_is dr34 N (by omega) l 4 Sb10 (G ++ X5) B10 (by decide) (by decide)
  obtain ⟨ru, Sb12, e12, a12, B12, n12⟩ := pick_at pk35 N hN l jr (rs.map .str) Sb11 (G ++ X5) B11 (by omega) (moved (by omega) hr1 hr) (fun z => hr2 (List.map_eq_nil_iff.mp z)) (by rw [List.length_map]; omega)
  obtain ⟨wa, Sb13, e13, a13, B13, n13⟩ := pick_at pk35 N hN l jw (ws.map .int) Sb12 (G ++ X5) B12 (by omega) (moved (by omega) hw1 hw) (fun z => hw2 (List.map_eq_nil_iff.mp z)) (by rw [List.length_map]; omega)
  obtain ⟨ru', -, rfl⟩ := List.mem_map.mp a12
  obtain ⟨wa', hwa, rfl⟩ := List.mem_map.mp a13
  have wb := hw4 wa' hwa
  obtain ⟨tp, rfl, t1, t2, t3, t4⟩ : ∃ tp : Fr, th = frD tp ∧ Ti tp ∧ 0 < tp.1 ∧ tp.1 ≤ 9 * tp.2 ∧ tp.2 ≤ tp.1 := by
    simp only [List.mem_cons, List.not_mem_nil, or_false] at a4
    rcases a4 with rfl | rfl | rfl | rfl | rfl
    · exact ⟨(1, 1), rfl, ti_lit (by decide) (by decide) (by decide), by decide, by decide, by decide⟩
    · exact ⟨(9, 8), rfl, ti_lit (by decide) (by decide) (by decide), by decide, by decide, by decide⟩
    · exact ⟨(3, 2), rfl, ti_lit (by decide) (by decide) (by decide), by decide, by decide, by decide⟩
    · exact ⟨(2, 1), rfl, ti_lit (by decide) (by decide) (by decide), by decide, by decide, by decide⟩
    · exact ⟨(9, 1), rfl, ti_lit (by decide) (by decide) (by decide), by decide, by decide, by decide⟩
  obtain ⟨cp, rfl⟩ : ∃ cp : Fr, cu = frD cp := by
    simp only [List.mem_cons, List.not_mem_nil, or_false] at a5
    rcases a5 with rfl | rfl | rfl | rfl
    · exact ⟨_, rfl⟩
    · exact ⟨_, rfl⟩
    · exact ⟨_, rfl⟩
    · exact ⟨_, rfl⟩
  refine ⟨⟨d6 + 1, tp, d7 + 1, d8 + 1, d9 + 1, d10 + 1, d1 + 1 + d2, d1 + 1, d1 + 1 + d2 + d3, cp, d11, ru', wa'⟩, Sb13, X5, ?_, ⟨⟨?_, t1, t2, ?_, ?_, ?_, ?_, ?_, wb⟩, ?_, ?_, ?_, t3, t4⟩, B13, by omega⟩
  · refine end_any (env := [some (.loc l), some (.loc jr), some (.loc jw), some (.int (d1 + 1)), some (.int (d1 + 1 + d2)), some (.int (d1 + 1 + d2 + d3)), some (frD tp), some (frD cp), some (.tup [.int (d6 + 1), frD tp, .int (d7 + 1), .int (d8 + 1), .int (d9 + 1), .int (d10 + 1)])]) ?_ rfl
    show exSs (callN P N) b__law_book [some (.loc l), some (.loc jr), some (.loc jw), none, none, none, none, none, none] (Sb ++ G) = _
    unfold b__law_book
    clear moved hr hw hr1 hw1 hr2 hw2 hr3 hw3 hw4 a1 a2 a3 a4 a5 a6 a7 a8 a9 a10 a11 a12 a13 b1 b2 b3 b6 b7 b8 b9 b10 b11 B1 B2 B3 B4 B5 B6 B7 B8 B9 B10 B11 B12 B13 n1 n2 n3 n4 n5 n6 n7 n8 n9 n10 n11 n12 n13 hwa wb t1 t2 t3 t4 hB
    refine seq_eq [some (.loc l), some (.loc jr), some (.loc jw), some (.int (d1 + 1)), none, none, none, none, none] (Sb1 ++ G) (by clear e2 e3 e4 e5 e6 e7 e8 e9 e10 e11 e12 e13 hX5; walk_at "ev*") ?_
    refine seq_eq [some (.loc l), some (.loc jr), some (.loc jw), some (.int (d1 + 1)), some (.int (d1 + 1 + d2)), none, none, none, none] (Sb2 ++ G) (by clear e1 e3 e4 e5 e6 e7 e8 e9 e10 e11 e12 e13 hX5; walk_at "ev*") ?_
    refine seq_eq [some (.loc l), some (.loc jr), some (.loc jw), some (.int (d1 + 1)), some (.int (d1 + 1 + d2)), some (.int (d1 + 1 + d2 + d3)), none, none, none] (Sb3 ++ G) (by clear e1 e2 e4 e5 e6 e7 e8 e9 e10 e11 e12 e13 hX5; walk_at "ev*") ?_
    refine seq_eq [some (.loc l), some (.loc jr), some (.loc jw), some (.int (d1 + 1)), some (.int (d1 + 1 + d2)), some (.int (d1 + 1 + d2 + d3)), some (frD tp), none, none] (Sb4 ++ (G ++ [.lst [frD (1, 1), frD (9, 8), frD (3, 2), frD (2, 1), frD (9, 1)]])) (by
      clear e1 e2 e3 e5 e6 e7 e8 e9 e10 e11 e12 e13 hX5
      unfold frD at e4
      walk_at "ev*"
      rfl) ?_
    refine seq_eq [some (.loc l), some (.loc jr), some (.loc jw), some (.int (d1 + 1)), some (.int (d1 + 1 + d2)), some (.int (d1 + 1 + d2 + d3)), some (frD tp), some (frD cp), none] (Sb5 ++ (G ++ X5)) (by
      clear e1 e2 e3 e4 e6 e7 e8 e9 e10 e11 e12 e13 hX5
      generalize Sb4 ++ (G ++ [SO.lst [frD (1, 1), frD (9, 8), frD (3, 2), frD (2, 1), frD (9, 1)]]) = S4 at e5 ⊢
      have e5' : callN P N 35 [.loc l, .loc S4.length] (S4 ++ [SO.lst [.tup [.int 1, .int 2], .tup [.int 7, .int 10], .tup [.int 1, .int 3], .tup [.int 99, .int 100]]]) = .ok (frD cp) (Sb5 ++ (G ++ X5)) := e5
      clear e5
      walk_at "ev*") ?_
    clear e1 e2 e3 e4 e5 hX5
    refine seq_eq [some (.loc l), some (.loc jr), some (.loc jw), some (.int (d1 + 1)), some (.int (d1 + 1 + d2)), some (.int (d1 + 1 + d2 + d3)), some (frD tp), some (frD cp), some (.tup [.int (d6 + 1), frD tp, .int (d7 + 1), .int (d8 + 1), .int (d9 + 1), .int (d10 + 1)])] (Sb10 ++ (G ++ X5)) (by walk_at "ev*") ?_
    clear e6 e7 e8 e9 e10
    walk_at "ev*"
    rfl
  all_goals dsimp only
  all_goals omega

/-! ### the law's mended book -/
def bkL (b : Bk) : List D := [.int b.k, frD b.th, .int b.gr, .int b.fi, .int b.db, .int b.ga, .int b.st, .int b.le, .int b.mo, frD b.cu, .int b.fa, .str b.ru, .int b.wa]
theorem bkD_L (b : Bk) : bkD b = .tup (bkL b) := rfl
theorem at_k (b : Bk) : atI (bkL b) 0 = some (.int b.k) := rfl
theorem at_gr (b : Bk) : atI (bkL b) 2 = some (.int b.gr) := rfl
theorem at_fi (b : Bk) : atI (bkL b) 3 = some (.int b.fi) := rfl
theorem ix0 (b : Bk) : ixN (bkL b).length 0 = some 0 := rfl
theorem ix1 (b : Bk) : ixN (bkL b).length 1 = some 1 := rfl
theorem ix2 (b : Bk) : ixN (bkL b).length 2 = some 2 := rfl
theorem ix3 (b : Bk) : ixN (bkL b).length 3 = some 3 := rfl
theorem set_k (b : Bk) (v : Int) : (bkL b).set 0 (.int v) = bkL { b with k := v } := rfl
theorem set_th (b : Bk) (v : Fr) : (bkL b).set 1 (frD v) = bkL { b with th := v } := rfl
theorem set_gr (b : Bk) (v : Int) : (bkL b).set 2 (.int v) = bkL { b with gr := v } := rfl
theorem set_fi (b : Bk) (v : Int) : (bkL b).set 3 (.int v) = bkL { b with fi := v } := rfl
theorem st0 (S G : Store) (L : List D) : (S ++ (SO.lst L :: G))[S.length]? = some (.lst L) := by rw [st_get0]; rfl
theorem sts (S G : Store) (L M : List D) : (S ++ (SO.lst L :: G)).set S.length (.lst M) = S ++ (SO.lst M :: G) := by rw [st_set0]; rfl
theorem e_will (n : Nat) (b : Bk) (r : Rd) (g : Int) (t : Fr) (S : Store) (hr : RdOk r) (hg : Sm (g, 1)) (ht : Ti t) : callN P (n + 4) 48 [bkD b, rdD r, .int g, frD t] S = .ok (.bl (timedF { b with gr := g, th := t } r)) S := by
  rw [callN_eq (n + 3) _ _ (fd := ⟨4, 5, b__law_theta_will_do, true⟩) rfl rfl (Nat.le_of_ble_eq_true rfl)]
  refine end_pure (env := [some (bkD b), some (rdD r), some (.int g), some (frD t), some (.int r.W)]) ?_ rfl rfl
  show exSs (callN P (n + 3)) b__law_theta_will_do [some (bkD b), some (rdD r), some (.int g), some (frD t), none] S = _
  unfold b__law_theta_will_do
  have h1 := hr.lo; have h2 := hr.low; have h3 := hr.hi; have h4 := hr.high
  have s2 : Sm (timesF t (r.L, 1)) := ht.times (by show 0 ≤ r.lo + r.low; omega) (by show r.lo + r.low < 100000; omega)
  have s4 : Sm (r.L, 1) := sm_int (by show (r.lo + r.low).natAbs < 2 ^ 64; omega)
  have x2 : callN P (n + 3) 39 [frD t, .tup [.int r.L, .int 1]] S = .ok (frD (timesF t (r.L, 1))) S := ti39 n t (r.L, 1) S ht.sm s4
  have x3 : callN P (n + 3) 40 [.tup [.int g, .int 1], frD (timesF t (r.L, 1))] S = .ok (frD (moreF (g, 1) (timesF t (r.L, 1)))) S := mo40 (n + 1) (g, 1) _ S hg s2
  have x5 : callN P (n + 3) 41 [frD (moreF (g, 1) (timesF t (r.L, 1)))] S = .ok (.int (upF (moreF (g, 1) (timesF t (r.L, 1))))) S := up41 (n + 2) _ S (sm_more hg s2)
  have tfe : timedF { b with gr := g, th := t } r = (decide (b.mo = 1) || decide (r.W ≤ b.ga) || decide (r.T ≤ upF (moreF (g, 1) (timesF t (r.L, 1))))) := rfl
  rw [tfe]
  have y1 : r.lo + r.low = r.L := rfl
  have y2 : r.hi + r.high = r.T := rfl
  have y3 : r.hi - r.lo = r.W := rfl
  generalize timesF t (r.L, 1) = q1 at *
  generalize moreF (g, 1) q1 = q2 at *
  generalize upF q2 = q3 at *
  generalize r.W = W at *
  generalize r.T = T at *
  generalize r.L = Lt at *
  clear h1 h2 h3 h4 s2 s4 tfe
  by_cases c1 : b.mo = 1
  · have d1 : (decide (b.mo = 1)) = true := decide_eq_true c1
    rw [d1]
    clear c1
    walk_at "ev*"
    rfl
  · have d1 : (decide (b.mo = 1)) = false := decide_eq_false c1
    by_cases c2 : W ≤ b.ga
    · have d2 : (decide (W ≤ b.ga)) = true := decide_eq_true c2
      rw [d1, d2]
      clear c1 c2
      walk_at "ev*"
      rfl
    · have d2 : (decide (W ≤ b.ga)) = false := decide_eq_false c2
      rw [d1, d2]
      clear c1 c2
      walk_at "ev*"
      rfl
def C1 : E := .and (.cons (.cmp .le (.idx (.var 5) (.cint 3)) (.cint 1000)) (.cons (.cmp .lt (.bin .add (.idx (.var 5) (.cint 3)) (.prim .max (.cons (.idx (.var 5) (.cint 2)) (.cons (.bin .mul (.cint 2) (.idx (.var 5) (.cint 3))) .nil)))) (.var 2)) .nil))
def D1 : Ss := .cons (.augS (.var 5) (.cint 3) .add (.cint 1)) .nil
def C2 : E := .and (.cons (.cmp .le (.idx (.var 5) (.cint 0)) (.cint 9)) (.cons (.cmp .gt (.idx (.var 0) (.cint 8)) (.cint 1)) (.cons (.cmp .lt (.idx (.call 44 (.cons (.var 0) (.cons (.var 1) (.cons (.idx (.var 5) (.cint 0)) .nil)))) (.neg (.cint 1))) (.var 4)) .nil)))
def D2 : Ss := .cons (.augS (.var 5) (.cint 0) .add (.cint 1)) .nil
def T7 : E := .and (.cons (.cmp .ge (.bin .mul (.var 8) (.idx (.var 6) (.cint 1))) (.bin .mul (.cint 8) (.idx (.var 6) (.cint 0)))) (.cons (.call 48 (.cons (.var 0) (.cons (.var 1) (.cons (.idx (.var 5) (.cint 2)) (.cons (.call 38 (.cons (.var 8) (.cons (.cint 8) .nil))) .nil))))) .nil))
theorem lm_eq : b__law_mended = .cons (.par [2, 3, 4] (.cons (.bin .add (.idx (.var 1) (.cint 1)) (.idx (.var 1) (.cint 3))) (.cons (.bin .add (.idx (.var 1) (.cint 0)) (.idx (.var 1) (.cint 2))) (.cons (.bin .sub (.idx (.var 1) (.cint 1)) (.idx (.var 1) (.cint 0))) .nil)))) (.cons (.asg (.nm 5) (.prim .list (.cons (.var 0) .nil))) (.cons (.setS (.var 5) (.cint 2) (.prim .max (.cons (.idx (.var 0) (.cint 2)) (.cons (.bin .sub (.var 2) (.var 3)) .nil)))) (.cons (.ite (.cmp .gt (.idx (.var 5) (.cint 2)) (.cint 1000)) (.cons (.ret (.cnon)) .nil) .nil) (.cons (.wh C1 D1) (.cons (.ite (.cmp .gt (.idx (.var 5) (.cint 3)) (.cint 1000)) (.cons (.ret (.cnon)) .nil) .nil) (.cons (.ite (.cmp .eq (.idx (.var 0) (.cint 11)) (.cstr (PySem.Str.ofString "guess"))) (.cons (.wh C2 D2) (.cons (.ite (.cmp .gt (.idx (.var 5) (.cint 0)) (.cint 9)) (.cons (.ret (.cnon)) .nil) .nil) (.cons (.asg (.nm 6) (.idx (.var 0) (.cint 1))) (.cons (.ite (.not (.call 48 (.cons (.var 0) (.cons (.var 1) (.cons (.idx (.var 5) (.cint 2)) (.cons (.var 6) .nil)))))) (.cons (.asg (.nm 7) (.lc (.var 8) (.nm 8) (.range2 (.cint 8) (.cint 73)) (.cons T7 .nil) [8])) (.cons (.ite (.cmp .eq (.var 7) (.lst .nil)) (.cons (.ret (.cnon)) .nil) .nil) (.cons (.asg (.nm 6) (.call 38 (.cons (.idx (.var 7) (.cint 0)) (.cons (.cint 8) .nil)))) .nil))) .nil) (.cons (.setS (.var 5) (.cint 1) (.var 6)) .nil))))) .nil) (.cons (.ret (.prim .tuple (.cons (.var 5) .nil))) .nil))))))) := rfl

theorem lm_loop1 (F : Fns) (S G : Store) (b : Bk) (T : Int) (x0 x1 x3 x4 o6 o7 o8 : Option D) : ∀ (n : Nat) (x : Int), 1001 - x ≤ n →
    whS F C1 D1 [x0, x1, some (.int T), x3, x4, some (.loc S.length), o6, o7, o8] (S ++ (.lst (bkL { b with fi := x }) :: G)) = .ok (.next, [x0, x1, some (.int T), x3, x4, some (.loc S.length), o6, o7, o8]) (S ++ (.lst (bkL { b with fi := lpF b.gr T n x }) :: G)) := by
  have hc : ∀ x : Int, truR (evE F C1 [x0, x1, some (.int T), x3, x4, some (.loc S.length), o6, o7, o8] (S ++ (.lst (bkL { b with fi := x }) :: G))) = .ok (decide (x ≤ 1000 ∧ x + max b.gr (2 * x) < T)) (S ++ (.lst (bkL { b with fi := x }) :: G)) := fun x => by
    unfold C1
    have h0 := st0 S G (bkL { b with fi := x })
    have h2 : atI (bkL { b with fi := x }) 2 = some (.int b.gr) := rfl
    have h3 : atI (bkL { b with fi := x }) 3 = some (.int x) := rfl
    generalize bkL { b with fi := x } = L at *
    by_cases c1 : x ≤ 1000
    · have d1 : (decide (x ≤ 1000)) = true := decide_eq_true c1
      have d2 : (decide (x ≤ 1000 ∧ x + max b.gr (2 * x) < T)) = decide (x + max b.gr (2 * x) < T) := by simp [c1]
      rw [d2]
      clear c1 d2
      walk_at "ev*"
    · have d1 : (decide (x ≤ 1000)) = false := decide_eq_false c1
      have d2 : (decide (x ≤ 1000 ∧ x + max b.gr (2 * x) < T)) = false := by simp [c1]
      rw [d2]
      clear c1 d2
      walk_at "ev*"
  intro n
  induction n with
  | zero =>
    intro x h
    rw [whS_eq, hc x, decide_eq_false (by omega), bnd_ok, whB_f]
    rfl
  | succ n ih =>
    intro x h
    rw [whS_eq, hc x, lpF]
    by_cases hx : x ≤ 1000 ∧ x + max b.gr (2 * x) < T
    · rw [decide_eq_true hx, bnd_ok, whB_t, if_pos hx]
      have t : exSs F D1 [x0, x1, some (.int T), x3, x4, some (.loc S.length), o6, o7, o8] (S ++ (.lst (bkL { b with fi := x }) :: G)) = .ok (.next, [x0, x1, some (.int T), x3, x4, some (.loc S.length), o6, o7, o8]) (S ++ (.lst (bkL { b with fi := x + 1 }) :: G)) := by
        unfold D1
        have h0 := st0 S G (bkL { b with fi := x })
        have h1 := sts S G (bkL { b with fi := x }) (bkL { b with fi := x + 1 })
        have h3 : atI (bkL { b with fi := x }) 3 = some (.int x) := rfl
        have h4 : ixN (bkL { b with fi := x }).length 3 = some 3 := rfl
        have h5 : (bkL { b with fi := x }).set 3 (.int (x + 1)) = bkL { b with fi := x + 1 } := rfl
        generalize bkL { b with fi := x } = L at *
        generalize bkL { b with fi := x + 1 } = M at *
        clear ih hc hx
        walk_at "ev*"
      rw [t, bnd_ok, whK_n]
      exact ih (x + 1) (by omega)
    · rw [decide_eq_false hx, bnd_ok, whB_f, if_neg hx]
theorem lm_loop2 (n : Nat) (S G : Store) (b m : Bk) (r : Rd) (x2 x3 o6 o7 o8 : Option D) (hg : b.ga = m.ga) (hm : b.mo = m.mo) (hru : m.ru = PySem.Str.ofString "guess") (f1 : ¬ m.fi + max m.gr (2 * m.fi) < r.T) (f2 : ¬ r.L + m.gr < r.T) : ∀ (u : Nat) (k : Int), 1 ≤ k → k ≤ 100 → (10 - k).toNat ≤ u →
    whS (callN P (n + 1)) C2 D2 [some (bkD b), some (rdD r), x2, x3, some (.int r.W), some (.loc S.length), o6, o7, o8] (S ++ (.lst (bkL { m with k := k }) :: G)) = .ok (.next, [some (bkD b), some (rdD r), x2, x3, some (.int r.W), some (.loc S.length), o6, o7, o8]) (S ++ (.lst (bkL { m with k := kL m r u k }) :: G)) := by
  have nf : ∀ k : Int, (faultF { m with k := k } r = PySem.Str.ofString "number") ↔ (1 < b.mo ∧ lastI (sprL b.ga b.mo r.L k.toNat) < r.W) := fun k => by
    rw [hg, hm]
    exact number_iff (b := { m with k := k }) f1 f2 hru
  have hc : ∀ k : Int, 1 ≤ k → k ≤ 100 → truR (evE (callN P (n + 1)) C2 [some (bkD b), some (rdD r), x2, x3, some (.int r.W), some (.loc S.length), o6, o7, o8] (S ++ (.lst (bkL { m with k := k }) :: G))) = .ok (decide (k ≤ 9 ∧ faultF { m with k := k } r = PySem.Str.ofString "number")) (S ++ (.lst (bkL { m with k := k }) :: G)) := fun k k1 k2 => by
    unfold C2
    have h0 := st0 S G (bkL { m with k := k })
    have h3 : atI (bkL { m with k := k }) 0 = some (.int k) := rfl
    have x4 : callN P (n + 1) 44 [bkD b, rdD r, .int k] (S ++ (.lst (bkL { m with k := k }) :: G)) = .ok (.tup ((sprL b.ga b.mo r.L k.toNat).map .int)) (S ++ (.lst (bkL { m with k := k }) :: G)) := by
      have := ls44 n b r k.toNat (S ++ (.lst (bkL { m with k := k }) :: G)) (by omega)
      rw [Int.toNat_of_nonneg (by omega)] at this
      exact this
    have a1 := atI_lastI (sprL_ne b.ga b.mo r.L k.toNat)
    have e : decide (k ≤ 9 ∧ faultF { m with k := k } r = PySem.Str.ofString "number") = (decide (k ≤ 9) && (decide (1 < b.mo) && decide (lastI (sprL b.ga b.mo r.L k.toNat) < r.W))) := by
      rw [← Bool.decide_and, ← Bool.decide_and]
      exact decide_eq_decide.mpr (by rw [nf k])
    rw [e]
    generalize bkL { m with k := k } = L at *
    generalize sprL b.ga b.mo r.L k.toNat = sp at *
    generalize lastI sp = la at *
    generalize sp.map D.int = LD at *
    generalize r.W = W at *
    clear nf e f1 f2 hg hm k1 k2
    by_cases c1 : k ≤ 9
    · have d1 : (decide (k ≤ 9)) = true := decide_eq_true c1
      rw [d1]
      clear c1
      by_cases c2 : 1 < b.mo
      · have d2 : (decide (1 < b.mo)) = true := decide_eq_true c2
        rw [d2]
        clear c2
        walk_at "ev*"
        rfl
      · have d2 : (decide (1 < b.mo)) = false := decide_eq_false c2
        rw [d2]
        clear c2
        walk_at "ev*"
        rfl
    · have d1 : (decide (k ≤ 9)) = false := decide_eq_false c1
      rw [d1]
      clear c1
      walk_at "ev*"
      rfl
  intro u
  induction u with
  | zero =>
    intro k k1 k2 h
    rw [whS_eq, hc k k1 k2, decide_eq_false (by omega), bnd_ok, whB_f]
    rfl
  | succ u ih =>
    intro k k1 k2 h
    rw [whS_eq, hc k k1 k2, kL]
    by_cases hx : k ≤ 9 ∧ faultF { m with k := k } r = PySem.Str.ofString "number"
    · rw [decide_eq_true hx, bnd_ok, whB_t, if_pos hx]
      have t : exSs (callN P (n + 1)) D2 [some (bkD b), some (rdD r), x2, x3, some (.int r.W), some (.loc S.length), o6, o7, o8] (S ++ (.lst (bkL { m with k := k }) :: G)) = .ok (.next, [some (bkD b), some (rdD r), x2, x3, some (.int r.W), some (.loc S.length), o6, o7, o8]) (S ++ (.lst (bkL { m with k := k + 1 }) :: G)) := by
        unfold D2
        have h0 := st0 S G (bkL { m with k := k })
        have h1 := sts S G (bkL { m with k := k }) (bkL { m with k := k + 1 })
        have h3 : atI (bkL { m with k := k }) 0 = some (.int k) := rfl
        have h4 : ixN (bkL { m with k := k }).length 0 = some 0 := rfl
        have h5 : (bkL { m with k := k }).set 0 (.int (k + 1)) = bkL { m with k := k + 1 } := rfl
        generalize bkL { m with k := k } = L at *
        generalize bkL { m with k := k + 1 } = M at *
        generalize r.W = W at *
        clear ih hc hx nf f1 f2 hg hm k1 k2
        walk_at "ev*"
      rw [t, bnd_ok, whK_n]
      exact ih (k + 1) (by omega) (by omega) (by omega)
    · rw [decide_eq_false hx, bnd_ok, whB_f, if_neg hx]
end
end LW
namespace LW
open PySem PySem.Spec PyProof.Rows L2 SX
noncomputable section
open Classical
local macro_rules | `(tactic| walk_at "ev") => `(tactic| simp (config := { maxSteps := 3000000 }) (disch := first | assumption | omega | exact ⟨by omega, by omega⟩ | exact ⟨⟨by omega, by omega⟩, ⟨by omega, by omega⟩⟩ | exact Nat.le_of_ble_eq_true rfl | decide) only [bk0, bk1, bk2, bk3, bk4, bk5, bk6, bk7, bk8, bk9, bk10, bk11, bk12, rd0, rd1, rd2, rd3, bnd_ok, bnd_bad, binJ_eq, binK_eq, notK_eq, cmpJ_eq, cmpK_eq, idxJ_eq, idxK_eq, calJ_eq, clkJ_eq, clkK_eq, priJ_eq, isiJ_eq, metJ_eq, metI_t, metK_eq, lcJ_eq, lcK_eq, conJ_eq, conK_eq, andJ_eq, orJ_eq, rg2J_eq, nxtK_eq, setI1_eq, setI2_eq, setI3_eq, retK_eq,  vE_var, varK_ok, vE_int, vE_bl, vE_non, vE_str, vE_tup, vE_lst, vE_bin, vE_neg, vE_not, vE_and, vE_or, vE_cmp, vE_ite, brE_t, brE_f, vE_idx, vE_slc, vE_call, vE_callk, vE_prim, vE_isin, vE_meth, vE_lc, vE_gcon, toD_int, toD_strs, vE_chain, chnI_eq, chnK_eq, chnJ_t, chnJ_f, vE_tupG, tgJ_eq, tgK_eq, vE_qual, qlK_eq, vE_sumG, smK_eq, vE_lc2, l2K_eq, vEs_nil, vEs_cons, vA_one, vA_cons, vO_one, vO_cons, andK_t, andK_f, orK_t, orK_f, vT_nil, vT_cons, vI_seq, seqK_tup, seqK_rls, seqK_loc, seqL_ok, vI_range1, rg1_int, vI_range2, rg2_int,
  xS_asg, asgK_nm, asgT_nm, asgT_tp2, asgT_tp3, asgK_tp2, asgK_tp3, xS_par, parK_2, parK_3, xS_setS, xS_aug, augV_ok, augK_add, augK_sub, xS_augS, agR_some, agD_eq, agX_eq, agI_eq, agO_eq, idxM_loc, augD_add, augD_sub, xS_expr, xS_ret, xS_retN, xS_ite, brS_t, brS_f, xS_wh, whB_t, whB_f, whK_n, whK_c, whK_b, whK_r, xS_fo, foT_some, foK_n, foK_c, foK_b, foK_r, xS_brk, xS_cont, xS_pass, xSs_nil, xSs_cons, sqK_n, sqK_r, sqK_b, sqK_c,
  b_add, b_sub, b_mul, b_mulL, b_mulR, b_fdiv, b_mod, b_pow, b_addT, b_addL, addL_ok, b_repT, k_lt, k_le, k_gt, k_ge, k_eq, k_ne, k_isN, k_notN, k_in, k_nin, tr_str, q_int, q_bl, q_str, ofB_some, Option.map_some, tr_bl, tr_int, tr_non, tr_tup, tr_loc, trK_ok, td_bl, td_int, td_tup, i_tup, i_rls, i_loc, idxL_ok, okV_some, at0, at1, at2, at3, at_m1, tupK_ok, lstK_ok, negK_int, p_abs, p_int, p_intB, p_lenT, p_lenR, p_lenL, lenL_ok, p_max, p_min, p_tupT, p_tupL, tupL_ok, p_lstT, p_lstL, lstL_ok, isD_ok, m_app, appL_ok, m_pop, popL_ok, m_rev, revL_ok, recv_ok, recvL_ok, set_loc, setL_ok, setI_ok, new_eq, Bool.not_true, Bool.not_false, if_true, eq_self, decide_true, decide_false,
  List.set_cons_zero, List.set_cons_succ, List.getElem?_cons_zero, List.getElem?_cons_succ, List.length_cons, List.length_nil, Option.some.injEq])
local macro_rules | `(tactic| walk_at "ev*") => `(tactic| simp (config := { maxSteps := 3000000 }) (disch := first | assumption | omega | exact ⟨by omega, by omega⟩ | exact ⟨⟨by omega, by omega⟩, ⟨by omega, by omega⟩⟩ | exact Nat.le_of_ble_eq_true rfl | decide) only [bk0, bk1, bk2, bk3, bk4, bk5, bk6, bk7, bk8, bk9, bk10, bk11, bk12, rd0, rd1, rd2, rd3, bnd_ok, bnd_bad, binJ_eq, binK_eq, notK_eq, cmpJ_eq, cmpK_eq, idxJ_eq, idxK_eq, calJ_eq, clkJ_eq, clkK_eq, priJ_eq, isiJ_eq, metJ_eq, metI_t, metK_eq, lcJ_eq, lcK_eq, conJ_eq, conK_eq, andJ_eq, orJ_eq, rg2J_eq, nxtK_eq, setI1_eq, setI2_eq, setI3_eq, retK_eq,  vE_var, varK_ok, vE_int, vE_bl, vE_non, vE_str, vE_tup, vE_lst, vE_bin, vE_neg, vE_not, vE_and, vE_or, vE_cmp, vE_ite, brE_t, brE_f, vE_idx, vE_slc, vE_call, vE_callk, vE_prim, vE_isin, vE_meth, vE_lc, vE_gcon, toD_int, toD_strs, vE_chain, chnI_eq, chnK_eq, chnJ_t, chnJ_f, vE_tupG, tgJ_eq, tgK_eq, vE_qual, qlK_eq, vE_sumG, smK_eq, vE_lc2, l2K_eq, vEs_nil, vEs_cons, vA_one, vA_cons, vO_one, vO_cons, andK_t, andK_f, orK_t, orK_f, vT_nil, vT_cons, vI_seq, seqK_tup, seqK_rls, seqK_loc, seqL_ok, vI_range1, rg1_int, vI_range2, rg2_int,
  xS_asg, asgK_nm, asgT_nm, asgT_tp2, asgT_tp3, asgK_tp2, asgK_tp3, xS_par, parK_2, parK_3, xS_setS, xS_aug, augV_ok, augK_add, augK_sub, xS_augS, agR_some, agD_eq, agX_eq, agI_eq, agO_eq, idxM_loc, augD_add, augD_sub, xS_expr, xS_ret, xS_retN, xS_ite, brS_t, brS_f, xS_wh, whB_t, whB_f, whK_n, whK_c, whK_b, whK_r, xS_fo, foT_some, foK_n, foK_c, foK_b, foK_r, xS_brk, xS_cont, xS_pass, xSs_nil, xSs_cons, sqK_n, sqK_r, sqK_b, sqK_c,
  b_add, b_sub, b_mul, b_mulL, b_mulR, b_fdiv, b_mod, b_pow, b_addT, b_addL, addL_ok, b_repT, k_lt, k_le, k_gt, k_ge, k_eq, k_ne, k_isN, k_notN, k_in, k_nin, tr_str, q_int, q_bl, q_str, ofB_some, Option.map_some, tr_bl, tr_int, tr_non, tr_tup, tr_loc, trK_ok, td_bl, td_int, td_tup, i_tup, i_rls, i_loc, idxL_ok, okV_some, at0, at1, at2, at3, at_m1, tupK_ok, lstK_ok, negK_int, p_abs, p_int, p_intB, p_lenT, p_lenR, p_lenL, lenL_ok, p_max, p_min, p_tupT, p_tupL, tupL_ok, p_lstT, p_lstL, lstL_ok, isD_ok, m_app, appL_ok, m_pop, popL_ok, m_rev, revL_ok, recv_ok, recvL_ok, set_loc, setL_ok, setI_ok, new_eq, Bool.not_true, Bool.not_false, if_true, eq_self, decide_true, decide_false,
  List.set_cons_zero, List.set_cons_succ, List.getElem?_cons_zero, List.getElem?_cons_succ, List.length_cons, List.length_nil, Option.some.injEq, *])
local macro_rules | `(tactic| walk_at "evs") => `(tactic| simp (config := { maxSteps := 3000000 }) (disch := first | assumption | omega | exact ⟨by omega, by omega⟩ | exact ⟨⟨by omega, by omega⟩, ⟨by omega, by omega⟩⟩ | exact Nat.le_of_ble_eq_true rfl | decide) only [bk0, bk1, bk2, bk3, bk4, bk5, bk6, bk7, bk8, bk9, bk10, bk11, bk12, rd0, rd1, rd2, rd3, bnd_ok, bnd_bad, binJ_eq, binK_eq, notK_eq, cmpJ_eq, cmpK_eq, idxJ_eq, idxK_eq, calJ_eq, clkJ_eq, clkK_eq, priJ_eq, isiJ_eq, metJ_eq, metI_t, metK_eq, lcJ_eq, lcK_eq, conJ_eq, conK_eq, andJ_eq, orJ_eq, rg2J_eq, nxtK_eq, setI1_eq, setI2_eq, setI3_eq, retK_eq,  vE_var, varK_ok, vE_int, vE_bl, vE_non, vE_str, vE_tup, vE_lst, vE_bin, vE_neg, vE_not, vE_and, vE_or, vE_cmp, vE_ite, brE_t, brE_f, vE_idx, vE_slc, vE_call, vE_callk, vE_prim, vE_isin, vE_meth, vE_lc, vE_gcon, toD_int, toD_strs, vE_chain, chnI_eq, chnK_eq, chnJ_t, chnJ_f, vE_tupG, tgJ_eq, tgK_eq, vE_qual, qlK_eq, vE_sumG, smK_eq, vE_lc2, l2K_eq, vEs_nil, vEs_cons, vA_one, vA_cons, vO_one, vO_cons, andK_t, andK_f, orK_t, orK_f, vT_nil, vT_cons, vI_seq, seqK_tup, seqK_rls, seqK_loc, seqL_ok, vI_range1, rg1_int, vI_range2, rg2_int,
  xS_asg, asgK_nm, asgT_nm, asgT_tp2, asgT_tp3, asgK_tp2, asgK_tp3, xS_par, parK_2, parK_3, xS_setS, xS_aug, augV_ok, augK_add, augK_sub, xS_augS, agR_some, agD_eq, agX_eq, agI_eq, agO_eq, idxM_loc, augD_add, augD_sub, xS_expr, xS_ret, xS_retN, xS_ite, brS_t, brS_f, xS_wh, whB_t, whB_f, whK_n, whK_c, whK_b, whK_r, xS_fo, foT_some, foK_n, foK_c, foK_b, foK_r, xS_brk, xS_cont, xS_pass, xSs_nil, xSs_cons, sqK_n, sqK_r, sqK_b, sqK_c,
  b_add, b_sub, b_mul, b_mulL, b_mulR, b_fdiv, b_mod, b_pow, b_addT, b_addL, addL_ok, b_repT, k_lt, k_le, k_gt, k_ge, k_eq, k_ne, k_isN, k_notN, k_in, k_nin, tr_str, q_int, q_bl, q_str, ofB_some, Option.map_some, tr_bl, tr_int, tr_non, tr_tup, tr_loc, trK_ok, td_bl, td_int, td_tup, i_tup, i_rls, i_loc, idxL_ok, okV_some, at0, at1, at2, at3, at_m1, tupK_ok, lstK_ok, negK_int, p_abs, p_int, p_intB, p_lenT, p_lenR, p_lenL, lenL_ok, p_max, p_min, p_tupT, p_tupL, tupL_ok, p_lstT, p_lstL, lstL_ok, isD_ok, m_app, appL_ok, m_pop, popL_ok, m_rev, revL_ok, recv_ok, recvL_ok, set_loc, setL_ok, setI_ok, new_eq, Bool.not_true, Bool.not_false, if_true, eq_self, decide_true, decide_false,
  List.set_cons_zero, List.set_cons_succ, List.getElem?_cons_zero, List.getElem?_cons_succ, List.length_cons, List.length_nil, Option.some.injEq, List.cons_append, List.nil_append, List.append_assoc, Nat.reduceAdd, st_get, st_get0, st_set, st_set0, List.length_append, Nat.add_zero, Nat.zero_add, *])

def wB : Ss := .cons (.asg (.nm 7) (.lc (.var 8) (.nm 8) (.range2 (.cint 8) (.cint 73)) (.cons T7 .nil) [8])) (.cons (.ite (.cmp .eq (.var 7) (.lst .nil)) (.cons (.ret (.cnon)) .nil) .nil) (.cons (.asg (.nm 6) (.call 38 (.cons (.idx (.var 7) (.cint 0)) (.cons (.cint 8) .nil)))) .nil))
def gB : Ss := .cons (.wh C2 D2) (.cons (.ite (.cmp .gt (.idx (.var 5) (.cint 0)) (.cint 9)) (.cons (.ret (.cnon)) .nil) .nil) (.cons (.asg (.nm 6) (.idx (.var 0) (.cint 1))) (.cons (.ite (.not (.call 48 (.cons (.var 0) (.cons (.var 1) (.cons (.idx (.var 5) (.cint 2)) (.cons (.var 6) .nil)))))) wB .nil) (.cons (.setS (.var 5) (.cint 1) (.var 6)) .nil))))
theorem lm_eq2 : b__law_mended = .cons (.par [2, 3, 4] (.cons (.bin .add (.idx (.var 1) (.cint 1)) (.idx (.var 1) (.cint 3))) (.cons (.bin .add (.idx (.var 1) (.cint 0)) (.idx (.var 1) (.cint 2))) (.cons (.bin .sub (.idx (.var 1) (.cint 1)) (.idx (.var 1) (.cint 0))) .nil)))) (.cons (.asg (.nm 5) (.prim .list (.cons (.var 0) .nil))) (.cons (.setS (.var 5) (.cint 2) (.prim .max (.cons (.idx (.var 0) (.cint 2)) (.cons (.bin .sub (.var 2) (.var 3)) .nil)))) (.cons (.ite (.cmp .gt (.idx (.var 5) (.cint 2)) (.cint 1000)) (.cons (.ret (.cnon)) .nil) .nil) (.cons (.wh C1 D1) (.cons (.ite (.cmp .gt (.idx (.var 5) (.cint 3)) (.cint 1000)) (.cons (.ret (.cnon)) .nil) .nil) (.cons (.ite (.cmp .eq (.idx (.var 0) (.cint 11)) (.cstr (PySem.Str.ofString "guess"))) gB .nil) (.cons (.ret (.prim .tuple (.cons (.var 5) .nil))) .nil))))))) := rfl

theorem exS_get {F : Fns} {s : SX.St} {ss : Ss} {env env' : SX.Env} {S S' : Store} {d : D} (h : exS F s env S = .ok (.ret d, env') S') : exSs F (.cons s ss) env S = .ok (.ret d, env') S' := by
  rw [xSs_cons, h, bnd_ok, sqK_r]
/-- the eighths that will do -/
theorem w_lc (n : Nat) (S G : Store) (b m : Bk) (r : Rd) (hb : BkOk m) (hr : RdOk r) (hth : b.th = m.th) (hga : b.ga = m.ga) (hmo : b.mo = m.mo) (x2 x3 x4 : Option D) (o7 o8 : Option D) :
    lcS (callN P (n + 5)) [some (bkD b), some (rdD r), x2, x3, x4, some (.loc S.length), some (frD m.th), o7, o8] (.nm 8) [8] (.cons T7 .nil) (.var 8) ⟨rngK 8 73, none⟩ (rngK 8 73) [] (S ++ (.lst (bkL m) :: G)) = .ok (((rngZ 8 73).filter fun k => decide (8 * m.th.1 ≤ k * m.th.2) && timedF { m with th := lowF k 8 } r).map .int) (S ++ (.lst (bkL m) :: G)) := by
  have L0 : LINE = 16777216 := rfl
  have := lc_filt (callN P (n + 5)) [some (bkD b), some (rdD r), x2, x3, x4, some (.loc S.length), some (frD m.th), o7, o8] (S ++ (.lst (bkL m) :: G)) (.nm 8) [8] T7 (.var 8) ⟨rngK 8 73, none⟩ (here_none _ _) (fun d => decide (8 * m.th.1 ≤ dInt d * m.th.2) && timedF { m with th := lowF (dInt d) 8 } r) id (rngK 8 73) [] (by rw [rng_len]; simp only [List.length_nil]; omega) fun d hd => by
    obtain ⟨k, rfl, k0, k1⟩ := rng_mem hd
    refine ⟨[some (bkD b), some (rdD r), x2, x3, x4, some (.loc S.length), some (frD m.th), o7, some (.int k)], rfl, ?_, fun _ => ?_⟩
    · show truR _ = .ok (decide (8 * m.th.1 ≤ k * m.th.2) && timedF { m with th := lowF k 8 } r) _
      have h0 := st0 S G (bkL m)
      have h2 : atI (bkL m) 2 = some (.int m.gr) := rfl
      have y1 : callN P (n + 5) 38 [.int k, .int 8] (S ++ (.lst (bkL m) :: G)) = .ok (frD (lowF k 8)) (S ++ (.lst (bkL m) :: G)) := f38 (n + 3) k 8 _ (by decide) (Nat.lt_of_lt_of_le (by decide : (8 : Int).natAbs < 2 ^ 4) (pow_le_pow (by decide)))
      have y2 : callN P (n + 5) 48 [bkD b, rdD r, .int m.gr, frD (lowF k 8)] (S ++ (.lst (bkL m) :: G)) = .ok (.bl (timedF { m with th := lowF k 8 } r)) (S ++ (.lst (bkL m) :: G)) := by
        have := e_will (n + 1) b r m.gr (lowF k 8) (S ++ (.lst (bkL m) :: G)) hr (sm_int (by have := hb.gr; omega)) (ti_low (by decide) (by decide) (by omega))
        have e : timedF { b with gr := m.gr, th := lowF k 8 } r = timedF { m with th := lowF k 8 } r := by
          unfold timedF patF
          show (decide (b.mo = 1) || decide (r.W ≤ b.ga) || _) = _
          rw [hmo, hga]
        rw [e] at this
        exact this
      have b1 : binD .mul (.int k) (.int m.th.2) (S ++ (.lst (bkL m) :: G)) = .ok (.int (k * m.th.2)) (S ++ (.lst (bkL m) :: G)) := b_mulL _ ⟨by omega, by omega⟩
      have b2 : binD .mul (.int 8) (.int m.th.1) (S ++ (.lst (bkL m) :: G)) = .ok (.int (8 * m.th.1)) (S ++ (.lst (bkL m) :: G)) := b_mulL _ ⟨by decide, by decide⟩
      have i0 : ∀ S, idxD (frD m.th) (.int 0) S = .ok (.int m.th.1) S := fun _ => rfl
      have i1 : ∀ S, idxD (frD m.th) (.int 1) S = .ok (.int m.th.2) S := fun _ => rfl
      unfold T7
      generalize timedF { m with th := lowF k 8 } r = tf at *
      generalize lowF k 8 = q at *
      generalize bkL m = LL at *
      generalize k * m.th.2 = u1 at *
      generalize 8 * m.th.1 = u2 at *
      generalize frD m.th = ft at *
      generalize m.th.1 = u3 at *
      generalize m.th.2 = u4 at *
      clear hb hr hth hga hmo hd k0 k1
      by_cases c : u2 ≤ u1
      · have d1 : (decide (u2 ≤ u1)) = true := decide_eq_true c
        rw [d1]
        clear c
        walk_at "ev*"
        rfl
      · have d1 : (decide (u2 ≤ u1)) = false := decide_eq_false c
        rw [d1]
        clear c
        walk_at "ev*"
        rfl
    · rw [vE_var]
      rfl
  rw [rngZ_map, List.map_id, List.nil_append, filter_ints (fun k => decide (8 * m.th.1 ≤ k * m.th.2) && timedF { m with th := lowF k 8 } r) _ (fun i => rfl)] at this
  rw [rngZ_map]
  exact this
theorem none_at (L : List Int) : ([] : List Int) = [] := rfl
theorem e_lmend (n : Nat) (b : Bk) (r : Rd) (S : Store) (hb : BkOk b) (hr : RdOk r) (hth : b.th.2 ≤ b.th.1) : callN P (n + 6) 49 [bkD b, rdD r] S = .ok (obD (mendF b r)) S := by
  rw [callN_eq (n + 5) _ _ (fd := ⟨2, 9, b__law_mended, true⟩) rfl rfl (Nat.le_of_ble_eq_true rfl)]
  suffices H : ∃ env G, exSs (callN P (n + 5)) b__law_mended [some (bkD b), some (rdD r), none, none, none, none, none, none, none] S = .ok (.ret (obD (mendF b r)), env) (S ++ G) by
    obtain ⟨env, G, h⟩ := H
    exact end_app (env := env) G h rfl (cl_ob _ _)
  rw [lm_eq2]
  obtain ⟨g, hg⟩ : ∃ g, g = max b.gr (r.T - r.L) := ⟨_, rfl⟩
  obtain ⟨x, hx⟩ : ∃ x, x = lpF g r.T 1001 b.fi := ⟨_, rfl⟩
  have hw : wtF b r = if g > 1000 ∨ x > 1000 then none else some { b with gr := g, fi := x } := by
    unfold wtF
    dsimp only
    rw [← hg, ← hx]
  have s0 : exS (callN P (n + 5)) (.par [2, 3, 4] (.cons (.bin .add (.idx (.var 1) (.cint 1)) (.idx (.var 1) (.cint 3))) (.cons (.bin .add (.idx (.var 1) (.cint 0)) (.idx (.var 1) (.cint 2))) (.cons (.bin .sub (.idx (.var 1) (.cint 1)) (.idx (.var 1) (.cint 0))) .nil)))) [some (bkD b), some (rdD r), none, none, none, none, none, none, none] S = .ok (.next, [some (bkD b), some (rdD r), some (.int r.T), some (.int r.L), some (.int r.W), none, none, none, none]) S := by
    have y1 : r.lo + r.low = r.L := rfl
    have y2 : r.hi + r.high = r.T := rfl
    have y3 : r.hi - r.lo = r.W := rfl
    generalize r.W = W at *
    generalize r.T = T at *
    generalize r.L = Lt at *
    clear hw hx hg
    walk_at "ev*"
  have s1 : exS (callN P (n + 5)) (.asg (.nm 5) (.prim .list (.cons (.var 0) .nil))) [some (bkD b), some (rdD r), some (.int r.T), some (.int r.L), some (.int r.W), none, none, none, none] S = .ok (.next, [some (bkD b), some (rdD r), some (.int r.T), some (.int r.L), some (.int r.W), some (.loc S.length), none, none, none]) (S ++ (.lst (bkL b) :: [])) := by
    have pl : primD .list [bkD b] S = .ok (.loc S.length) (S ++ [.lst (bkL b)]) := rfl
    generalize r.W = W at *
    generalize r.T = T at *
    generalize r.L = Lt at *
    clear hw hx hg s0
    walk_at "ev*"
  have s2 : exS (callN P (n + 5)) (.setS (.var 5) (.cint 2) (.prim .max (.cons (.idx (.var 0) (.cint 2)) (.cons (.bin .sub (.var 2) (.var 3)) .nil)))) [some (bkD b), some (rdD r), some (.int r.T), some (.int r.L), some (.int r.W), some (.loc S.length), none, none, none] (S ++ (.lst (bkL b) :: [])) = .ok (.next, [some (bkD b), some (rdD r), some (.int r.T), some (.int r.L), some (.int r.W), some (.loc S.length), none, none, none]) (S ++ (.lst (bkL { b with gr := g }) :: [])) := by
    have h0 := st0 S [] (bkL b)
    have h1 := sts S [] (bkL b) (bkL { b with gr := g })
    have h4 : ixN (bkL b).length 2 = some 2 := rfl
    have h5 : (bkL b).set 2 (.int g) = bkL { b with gr := g } := rfl
    generalize bkL { b with gr := g } = M at *
    generalize bkL b = LL at *
    generalize r.W = W at *
    generalize r.T = T at *
    generalize r.L = Lt at *
    clear hw hx s0 s1
    subst hg
    walk_at "ev*"
  rw [xSs_cons, s0, bnd_ok, sqK_n, xSs_cons, s1, bnd_ok, sqK_n, xSs_cons, s2, bnd_ok, sqK_n]
  clear s0 s1 s2
  by_cases c1 : 1000 < g
  · refine ⟨[some (bkD b), some (rdD r), some (.int r.T), some (.int r.L), some (.int r.W), some (.loc S.length), none, none, none], [.lst (bkL { b with gr := g })], ?_⟩
    have er : mendF b r = none := by
      unfold mendF
      rw [hw, if_pos (.inl c1)]
    rw [er]
    refine exS_get ?_
    have h0 := st0 S [] (bkL { b with gr := g })
    have h2 : atI (bkL { b with gr := g }) 2 = some (.int g) := rfl
    have d : (decide (1000 < g)) = true := decide_eq_true c1
    generalize bkL { b with gr := g } = M at *
    clear c1 hw hx hg er
    walk_at "ev*"
    rfl
  have s3 : exS (callN P (n + 5)) (.ite (.cmp .gt (.idx (.var 5) (.cint 2)) (.cint 1000)) (.cons (.ret (.cnon)) .nil) .nil) [some (bkD b), some (rdD r), some (.int r.T), some (.int r.L), some (.int r.W), some (.loc S.length), none, none, none] (S ++ (.lst (bkL { b with gr := g }) :: [])) = .ok (.next, [some (bkD b), some (rdD r), some (.int r.T), some (.int r.L), some (.int r.W), some (.loc S.length), none, none, none]) (S ++ (.lst (bkL { b with gr := g }) :: [])) := by
    have h0 := st0 S [] (bkL { b with gr := g })
    have h2 : atI (bkL { b with gr := g }) 2 = some (.int g) := rfl
    have d : (decide (1000 < g)) = false := decide_eq_false c1
    generalize bkL { b with gr := g } = M at *
    clear c1 hw hx hg
    walk_at "ev*"
  have s4 : exS (callN P (n + 5)) (.wh C1 D1) [some (bkD b), some (rdD r), some (.int r.T), some (.int r.L), some (.int r.W), some (.loc S.length), none, none, none] (S ++ (.lst (bkL { b with gr := g }) :: [])) = .ok (.next, [some (bkD b), some (rdD r), some (.int r.T), some (.int r.L), some (.int r.W), some (.loc S.length), none, none, none]) (S ++ (.lst (bkL { b with gr := g, fi := x }) :: [])) := by
    rw [xS_wh, hx]
    exact lm_loop1 (callN P (n + 5)) S [] { b with gr := g } r.T _ _ _ _ _ _ _ 1001 b.fi (by have := hb.fi; omega)
  rw [xSs_cons, s3, bnd_ok, sqK_n, xSs_cons, s4, bnd_ok, sqK_n]
  clear s3 s4
  by_cases c2 : 1000 < x
  · refine ⟨[some (bkD b), some (rdD r), some (.int r.T), some (.int r.L), some (.int r.W), some (.loc S.length), none, none, none], [.lst (bkL { b with gr := g, fi := x })], ?_⟩
    have er : mendF b r = none := by
      unfold mendF
      rw [hw, if_pos (.inr c2)]
    rw [er]
    refine exS_get ?_
    have h0 := st0 S [] (bkL { b with gr := g, fi := x })
    have h2 : atI (bkL { b with gr := g, fi := x }) 3 = some (.int x) := rfl
    have d : (decide (1000 < x)) = true := decide_eq_true c2
    generalize bkL { b with gr := g, fi := x } = M at *
    clear c1 c2 hw hx hg er
    walk_at "ev*"
    rfl
  have s5 : exS (callN P (n + 5)) (.ite (.cmp .gt (.idx (.var 5) (.cint 3)) (.cint 1000)) (.cons (.ret (.cnon)) .nil) .nil) [some (bkD b), some (rdD r), some (.int r.T), some (.int r.L), some (.int r.W), some (.loc S.length), none, none, none] (S ++ (.lst (bkL { b with gr := g, fi := x }) :: [])) = .ok (.next, [some (bkD b), some (rdD r), some (.int r.T), some (.int r.L), some (.int r.W), some (.loc S.length), none, none, none]) (S ++ (.lst (bkL { b with gr := g, fi := x }) :: [])) := by
    have h0 := st0 S [] (bkL { b with gr := g, fi := x })
    have h2 : atI (bkL { b with gr := g, fi := x }) 3 = some (.int x) := rfl
    have d : (decide (1000 < x)) = false := decide_eq_false c2
    generalize bkL { b with gr := g, fi := x } = M at *
    clear c1 c2 hw hx hg
    walk_at "ev*"
  rw [xSs_cons, s5, bnd_ok, sqK_n, xSs_cons]
  clear s5
  rw [if_neg (by omega)] at hw
  have f1 : ¬ x + max g (2 * x) < r.T := by
    have := lp_stop g r.T 1001 b.fi (by have := hb.fi; omega)
    rw [← hx] at this
    omega
  have f2 : ¬ r.L + g < r.T := by omega
  obtain ⟨bm, -, -, -⟩ := wt_bk hb hw
  have fin : ∀ (M : Bk) (G : Store) (e6 e7 : Option D), exSs (callN P (n + 5)) (.cons (.ret (.prim .tuple (.cons (.var 5) .nil))) .nil) [some (bkD b), some (rdD r), some (.int r.T), some (.int r.L), some (.int r.W), some (.loc S.length), e6, e7, none] (S ++ (.lst (bkL M) :: G)) = .ok (.ret (bkD M), [some (bkD b), some (rdD r), some (.int r.T), some (.int r.L), some (.int r.W), some (.loc S.length), e6, e7, none]) (S ++ (.lst (bkL M) :: G)) := fun M G e6 e7 => by
    have h0 := st0 S G (bkL M)
    rw [bkD_L M]
    generalize bkL M = LL at *
    clear hw hx hg c1 c2 f1 f2
    walk_at "ev*"
  by_cases c3 : b.ru = PySem.Str.ofString "guess"
  · have s6 : exS (callN P (n + 5)) (.ite (.cmp .eq (.idx (.var 0) (.cint 11)) (.cstr (PySem.Str.ofString "guess"))) gB .nil) [some (bkD b), some (rdD r), some (.int r.T), some (.int r.L), some (.int r.W), some (.loc S.length), none, none, none] (S ++ (.lst (bkL { b with gr := g, fi := x }) :: [])) = exSs (callN P (n + 5)) gB [some (bkD b), some (rdD r), some (.int r.T), some (.int r.L), some (.int r.W), some (.loc S.length), none, none, none] (S ++ (.lst (bkL { b with gr := g, fi := x }) :: [])) := by
      have d : (decide (b.ru = PySem.Str.ofString "guess")) = true := decide_eq_true c3
      rw [xS_ite]
      have t : truR (evE (callN P (n + 5)) (.cmp .eq (.idx (.var 0) (.cint 11)) (.cstr (PySem.Str.ofString "guess"))) [some (bkD b), some (rdD r), some (.int r.T), some (.int r.L), some (.int r.W), some (.loc S.length), none, none, none] (S ++ (.lst (bkL { b with gr := g, fi := x }) :: []))) = .ok true (S ++ (.lst (bkL { b with gr := g, fi := x }) :: [])) := by
        clear hw hx hg c1 c2 c3 f1 f2 fin
        walk_at "ev*"
      rw [t, bnd_ok, brS_t]
    rw [s6]
    clear s6
    obtain ⟨k, hk⟩ : ∃ k, k = kL { b with gr := g, fi := x } r 10 b.k := ⟨_, rfl⟩
    have kb : 1 ≤ k ∧ (b.k ≤ k) := ⟨by rw [hk]; have := kL_ge { b with gr := g, fi := x } r 10 b.k; have := hb.k; omega, by rw [hk]; exact kL_ge ..⟩
    have t0 : exS (callN P (n + 5)) (.wh C2 D2) [some (bkD b), some (rdD r), some (.int r.T), some (.int r.L), some (.int r.W), some (.loc S.length), none, none, none] (S ++ (.lst (bkL { b with gr := g, fi := x }) :: [])) = .ok (.next, [some (bkD b), some (rdD r), some (.int r.T), some (.int r.L), some (.int r.W), some (.loc S.length), none, none, none]) (S ++ (.lst (bkL { b with gr := g, fi := x, k := k }) :: [])) := by
      rw [xS_wh, hk]
      exact lm_loop2 (n + 4) S [] b { b with gr := g, fi := x } r _ _ _ _ _ rfl rfl c3 f1 f2 10 b.k hb.k.1 hb.k.2 (by have := hb.k; omega)
    unfold gB
    rw [xSs_cons, t0, bnd_ok, sqK_n]
    clear t0
    have er : mendF b r = if k > 9 then none else thF { b with gr := g, fi := x, k := k } r := by
      unfold mendF
      rw [hw]
      dsimp only
      rw [if_pos c3, ← hk]
    rw [er]
    clear er
    by_cases c4 : 9 < k
    · rw [if_pos c4]
      have t1 : exSs (callN P (n + 5)) (.cons (.ite (.cmp .gt (.idx (.var 5) (.cint 0)) (.cint 9)) (.cons (.ret (.cnon)) .nil) .nil) (.cons (.asg (.nm 6) (.idx (.var 0) (.cint 1))) (.cons (.ite (.not (.call 48 (.cons (.var 0) (.cons (.var 1) (.cons (.idx (.var 5) (.cint 2)) (.cons (.var 6) .nil)))))) wB .nil) (.cons (.setS (.var 5) (.cint 1) (.var 6)) .nil)))) [some (bkD b), some (rdD r), some (.int r.T), some (.int r.L), some (.int r.W), some (.loc S.length), none, none, none] (S ++ (.lst (bkL { b with gr := g, fi := x, k := k }) :: [])) = .ok (.ret .non, [some (bkD b), some (rdD r), some (.int r.T), some (.int r.L), some (.int r.W), some (.loc S.length), none, none, none]) (S ++ (.lst (bkL { b with gr := g, fi := x, k := k }) :: [])) := by
        refine exS_get ?_
        have h0 := st0 S [] (bkL { b with gr := g, fi := x, k := k })
        have h2 : atI (bkL { b with gr := g, fi := x, k := k }) 0 = some (.int k) := rfl
        have d : (decide (9 < k)) = true := decide_eq_true c4
        generalize bkL { b with gr := g, fi := x, k := k } = M at *
        clear c1 c2 c4 hw hx hg hk kb f1 f2 fin
        walk_at "ev*"
      exact ⟨_, [.lst (bkL { b with gr := g, fi := x, k := k })], by rw [t1, bnd_ok, sqK_r]; rfl⟩
    · rw [if_neg c4]
      have bk := bk_k bm (k := k) kb.1 (by omega)
      have t1 : exS (callN P (n + 5)) (.ite (.cmp .gt (.idx (.var 5) (.cint 0)) (.cint 9)) (.cons (.ret (.cnon)) .nil) .nil) [some (bkD b), some (rdD r), some (.int r.T), some (.int r.L), some (.int r.W), some (.loc S.length), none, none, none] (S ++ (.lst (bkL { b with gr := g, fi := x, k := k }) :: [])) = .ok (.next, [some (bkD b), some (rdD r), some (.int r.T), some (.int r.L), some (.int r.W), some (.loc S.length), none, none, none]) (S ++ (.lst (bkL { b with gr := g, fi := x, k := k }) :: [])) := by
        have h0 := st0 S [] (bkL { b with gr := g, fi := x, k := k })
        have h2 : atI (bkL { b with gr := g, fi := x, k := k }) 0 = some (.int k) := rfl
        have d : (decide (9 < k)) = false := decide_eq_false c4
        generalize bkL { b with gr := g, fi := x, k := k } = M at *
        clear c1 c2 c4 hw hx hg hk kb f1 f2 fin
        walk_at "ev*"
      have t2 : exS (callN P (n + 5)) (.asg (.nm 6) (.idx (.var 0) (.cint 1))) [some (bkD b), some (rdD r), some (.int r.T), some (.int r.L), some (.int r.W), some (.loc S.length), none, none, none] (S ++ (.lst (bkL { b with gr := g, fi := x, k := k }) :: [])) = .ok (.next, [some (bkD b), some (rdD r), some (.int r.T), some (.int r.L), some (.int r.W), some (.loc S.length), some (frD b.th), none, none]) (S ++ (.lst (bkL { b with gr := g, fi := x, k := k }) :: [])) := by
        generalize bkL { b with gr := g, fi := x, k := k } = M at *
        clear c1 c2 c4 hw hx hg hk kb f1 f2 fin t1
        walk_at "ev*"
      rw [xSs_cons, t1, bnd_ok, sqK_n, xSs_cons, t2, bnd_ok, sqK_n]
      clear t1 t2
      have will : callN P (n + 5) 48 [bkD b, rdD r, .int g, frD b.th] (S ++ (.lst (bkL { b with gr := g, fi := x, k := k }) :: [])) = .ok (.bl (timedF { b with gr := g, fi := x, k := k } r)) (S ++ (.lst (bkL { b with gr := g, fi := x, k := k }) :: [])) :=
        e_will (n + 1) b r g b.th _ hr (sm_int (by have := hb.gr; have := hg; omega)) hb.th
      have setT : ∀ (M : Bk) (G : Store) (t : SX.Fr) (e7 : Option D), exS (callN P (n + 5)) (.setS (.var 5) (.cint 1) (.var 6)) [some (bkD b), some (rdD r), some (.int r.T), some (.int r.L), some (.int r.W), some (.loc S.length), some (frD t), e7, none] (S ++ (.lst (bkL M) :: G)) = .ok (.next, [some (bkD b), some (rdD r), some (.int r.T), some (.int r.L), some (.int r.W), some (.loc S.length), some (frD t), e7, none]) (S ++ (.lst (bkL { M with th := t }) :: G)) := fun M G t e7 => by
        have h0 := st0 S G (bkL M)
        have h1 := sts S G (bkL M) (bkL { M with th := t })
        have h4 : ixN (bkL M).length 1 = some 1 := rfl
        have h5 : (bkL M).set 1 (frD t) = bkL { M with th := t } := rfl
        generalize bkL { M with th := t } = M2 at *
        generalize bkL M = LL at *
        clear c1 c2 c4 hw hx hg hk kb f1 f2 fin will
        walk_at "ev*"
      rw [← thF_filter bk hth]
      by_cases ct : timedF { b with gr := g, fi := x, k := k } r = true
      · rw [if_pos ct]
        rw [ct] at will
        have t3 : exS (callN P (n + 5)) (.ite (.not (.call 48 (.cons (.var 0) (.cons (.var 1) (.cons (.idx (.var 5) (.cint 2)) (.cons (.var 6) .nil)))))) wB .nil) [some (bkD b), some (rdD r), some (.int r.T), some (.int r.L), some (.int r.W), some (.loc S.length), some (frD b.th), none, none] (S ++ (.lst (bkL { b with gr := g, fi := x, k := k }) :: [])) = .ok (.next, [some (bkD b), some (rdD r), some (.int r.T), some (.int r.L), some (.int r.W), some (.loc S.length), some (frD b.th), none, none]) (S ++ (.lst (bkL { b with gr := g, fi := x, k := k }) :: [])) := by
          have h0 := st0 S [] (bkL { b with gr := g, fi := x, k := k })
          have h2 : atI (bkL { b with gr := g, fi := x, k := k }) 2 = some (.int g) := rfl
          generalize bkL { b with gr := g, fi := x, k := k } = M at *
          clear c1 c2 c4 hw hx hg hk kb f1 f2 fin setT ct
          walk_at "ev*"
        refine ⟨[some (bkD b), some (rdD r), some (.int r.T), some (.int r.L), some (.int r.W), some (.loc S.length), some (frD b.th), none, none], [.lst (bkL { b with gr := g, fi := x, k := k })], ?_⟩
        rw [xSs_cons, t3, bnd_ok, sqK_n, xSs_cons, setT, bnd_ok, sqK_n, xSs_nil, bnd_ok, sqK_n]
        exact fin { b with gr := g, fi := x, k := k } [] _ _
      · rw [if_neg ct]
        rw [Bool.not_eq_true] at ct
        rw [ct] at will
        have lc := w_lc n S [] b { b with gr := g, fi := x, k := k } r bk hr rfl rfl rfl (some (.int r.T)) (some (.int r.L)) (some (.int r.W)) none none
        have lc : lcS (callN P (n + 5)) [some (bkD b), some (rdD r), some (.int r.T), some (.int r.L), some (.int r.W), some (.loc S.length), some (frD b.th), none, none] (.nm 8) [8] (.cons T7 .nil) (.var 8) ⟨rngK 8 73, none⟩ (rngK 8 73) [] (S ++ (.lst (bkL { b with gr := g, fi := x, k := k }) :: [])) = .ok (((rngZ 8 73).filter fun q => decide (8 * b.th.1 ≤ q * b.th.2) && timedF { b with gr := g, fi := x, k := k, th := lowF q 8 } r).map .int) (S ++ (.lst (bkL { b with gr := g, fi := x, k := k }) :: [])) := lc
        have el : ∀ q ∈ ((rngZ 8 73).filter fun q => decide (8 * b.th.1 ≤ q * b.th.2) && timedF { b with gr := g, fi := x, k := k, th := lowF q 8 } r), 8 ≤ q ∧ q < 73 := fun q hq => mem_rngZ (List.mem_filter.mp hq).1
        have hh : (headTh { b with gr := g, fi := x, k := k } ((rngZ 8 73).filter fun q => decide (8 * b.th.1 ≤ q * b.th.2) && timedF { b with gr := g, fi := x, k := k, th := lowF q 8 } r)) = headTh { b with gr := g, fi := x, k := k } ((rngZ 8 73).filter fun q => decide (8 * b.th.1 ≤ q * b.th.2) && timedF { b with gr := g, fi := x, k := k, th := lowF q 8 } r) := rfl
        generalize ((rngZ 8 73).filter fun q => decide (8 * b.th.1 ≤ q * b.th.2) && timedF { b with gr := g, fi := x, k := k, th := lowF q 8 } r) = E at *
        have t3 : exS (callN P (n + 5)) (.ite (.not (.call 48 (.cons (.var 0) (.cons (.var 1) (.cons (.idx (.var 5) (.cint 2)) (.cons (.var 6) .nil)))))) wB .nil) [some (bkD b), some (rdD r), some (.int r.T), some (.int r.L), some (.int r.W), some (.loc S.length), some (frD b.th), none, none] (S ++ (.lst (bkL { b with gr := g, fi := x, k := k }) :: [])) = exSs (callN P (n + 5)) wB [some (bkD b), some (rdD r), some (.int r.T), some (.int r.L), some (.int r.W), some (.loc S.length), some (frD b.th), none, none] (S ++ (.lst (bkL { b with gr := g, fi := x, k := k }) :: [])) := by
          rw [xS_ite]
          have h0 := st0 S [] (bkL { b with gr := g, fi := x, k := k })
          have h2 : atI (bkL { b with gr := g, fi := x, k := k }) 2 = some (.int g) := rfl
          generalize bkL { b with gr := g, fi := x, k := k } = M at *
          have t : truR (evE (callN P (n + 5)) (.not (.call 48 (.cons (.var 0) (.cons (.var 1) (.cons (.idx (.var 5) (.cint 2)) (.cons (.var 6) .nil)))))) [some (bkD b), some (rdD r), some (.int r.T), some (.int r.L), some (.int r.W), some (.loc S.length), some (frD b.th), none, none] (S ++ (.lst M :: []))) = .ok true (S ++ (.lst M :: [])) := by
            clear c1 c2 c4 hw hx hg hk kb f1 f2 fin setT ct lc el hh
            walk_at "ev*"
          rw [t, bnd_ok, brS_t]
        have r62 : R62 8 ∧ R62 73 := ⟨⟨by decide, by decide⟩, ⟨by decide, by decide⟩⟩
        have u0 : exS (callN P (n + 5)) (.asg (.nm 7) (.lc (.var 8) (.nm 8) (.range2 (.cint 8) (.cint 73)) (.cons T7 .nil) [8])) [some (bkD b), some (rdD r), some (.int r.T), some (.int r.L), some (.int r.W), some (.loc S.length), some (frD b.th), none, none] (S ++ (.lst (bkL { b with gr := g, fi := x, k := k }) :: [])) = .ok (.next, [some (bkD b), some (rdD r), some (.int r.T), some (.int r.L), some (.int r.W), some (.loc S.length), some (frD b.th), some (.loc (S.length + 1)), none]) (S ++ (.lst (bkL { b with gr := g, fi := x, k := k }) :: [.lst (E.map .int)])) := by
          have al : ∀ M : List D, (S ++ (SO.lst M :: [])).length = S.length + 1 := fun M => by simp
          have ap : ∀ M N : List D, (S ++ (SO.lst M :: [])) ++ [SO.lst N] = S ++ (SO.lst M :: [SO.lst N]) := fun M N => by simp
          generalize bkL { b with gr := g, fi := x, k := k } = M at *
          generalize E.map D.int = EL at *
          clear c1 c2 c4 hw hx hg hk kb f1 f2 fin setT ct hh t3 will
          walk_at "ev*"
        have hE : (S ++ (SO.lst (bkL { b with gr := g, fi := x, k := k }) :: [SO.lst (E.map D.int)]))[S.length + 1]? = some (.lst (E.map .int)) := by rw [st_get]; rfl
        have q := q_empty (S := S ++ (SO.lst (bkL { b with gr := g, fi := x, k := k }) :: [SO.lst (E.map D.int), SO.lst []])) (l := S.length + 1) (m := S.length + 2) (ds := E.map .int) (by rw [st_get]; rfl) (by rw [st_get]; rfl) (noStrs_ints _) (by rw [depDs_ints]; omega)
        have q1 : truR (evE (callN P (n + 5)) (.cmp .eq (.var 7) (.lst .nil)) [some (bkD b), some (rdD r), some (.int r.T), some (.int r.L), some (.int r.W), some (.loc S.length), some (frD b.th), some (.loc (S.length + 1)), none] (S ++ (.lst (bkL { b with gr := g, fi := x, k := k }) :: [.lst (E.map .int)]))) = .ok (E.map D.int).isEmpty (S ++ (.lst (bkL { b with gr := g, fi := x, k := k }) :: [.lst (E.map .int), .lst []])) := by
          have al : ∀ M N : List D, (S ++ (SO.lst M :: [SO.lst N])).length = S.length + 2 := fun M N => by simp
          have ap : ∀ M N O : List D, (S ++ (SO.lst M :: [SO.lst N])) ++ [SO.lst O] = S ++ (SO.lst M :: [SO.lst N, SO.lst O]) := fun M N O => by simp
          generalize bkL { b with gr := g, fi := x, k := k } = M at *
          generalize E.map D.int = EL at *
          clear c1 c2 c4 hw hx hg hk kb f1 f2 fin setT ct hh t3 will u0 lc
          walk_at "ev*"
        have u1 : exS (callN P (n + 5)) (.ite (.cmp .eq (.var 7) (.lst .nil)) (.cons (.ret (.cnon)) .nil) .nil) [some (bkD b), some (rdD r), some (.int r.T), some (.int r.L), some (.int r.W), some (.loc S.length), some (frD b.th), some (.loc (S.length + 1)), none] (S ++ (.lst (bkL { b with gr := g, fi := x, k := k }) :: [.lst (E.map .int)])) = brS (callN P (n + 5)) [some (bkD b), some (rdD r), some (.int r.T), some (.int r.L), some (.int r.W), some (.loc S.length), some (frD b.th), some (.loc (S.length + 1)), none] (.cons (.ret (.cnon)) .nil) .nil (E.map D.int).isEmpty (S ++ (.lst (bkL { b with gr := g, fi := x, k := k }) :: [.lst (E.map .int), .lst []])) := by
          rw [xS_ite, q1, bnd_ok]
        cases E with
        | nil =>
          refine ⟨[some (bkD b), some (rdD r), some (.int r.T), some (.int r.L), some (.int r.W), some (.loc S.length), some (frD b.th), some (.loc (S.length + 1)), none], [.lst (bkL { b with gr := g, fi := x, k := k }), .lst [], .lst []], ?_⟩
          have e1 : exS (callN P (n + 5)) (.ite (.not (.call 48 (.cons (.var 0) (.cons (.var 1) (.cons (.idx (.var 5) (.cint 2)) (.cons (.var 6) .nil)))))) wB .nil) [some (bkD b), some (rdD r), some (.int r.T), some (.int r.L), some (.int r.W), some (.loc S.length), some (frD b.th), none, none] (S ++ (.lst (bkL { b with gr := g, fi := x, k := k }) :: [])) = .ok (.ret .non, [some (bkD b), some (rdD r), some (.int r.T), some (.int r.L), some (.int r.W), some (.loc S.length), some (frD b.th), some (.loc (S.length + 1)), none]) (S ++ (.lst (bkL { b with gr := g, fi := x, k := k }) :: [.lst [], .lst []])) := by
            rw [t3]
            unfold wB
            rw [xSs_cons, u0, bnd_ok, sqK_n]
            refine exS_get ?_
            rw [u1]
            show brS _ _ _ _ true _ = _
            rw [brS_t]
            rfl
          rw [exS_get e1, bnd_ok, sqK_r]
          rfl
        | cons e E' =>
          have e8 := el e (List.mem_cons_self ..)
          have y1 : ∀ S, callN P (n + 5) 38 [.int e, .int 8] S = .ok (frD (lowF e 8)) S := fun S => f38 (n + 3) e 8 S (by decide) (Nat.lt_of_lt_of_le (by decide : (8 : Int).natAbs < 2 ^ 4) (pow_le_pow (by decide)))
          have u2 : exS (callN P (n + 5)) (.asg (.nm 6) (.call 38 (.cons (.idx (.var 7) (.cint 0)) (.cons (.cint 8) .nil)))) [some (bkD b), some (rdD r), some (.int r.T), some (.int r.L), some (.int r.W), some (.loc S.length), some (frD b.th), some (.loc (S.length + 1)), none] (S ++ (.lst (bkL { b with gr := g, fi := x, k := k }) :: [.lst ((e :: E').map .int), .lst []])) = .ok (.next, [some (bkD b), some (rdD r), some (.int r.T), some (.int r.L), some (.int r.W), some (.loc S.length), some (frD (lowF e 8)), some (.loc (S.length + 1)), none]) (S ++ (.lst (bkL { b with gr := g, fi := x, k := k }) :: [.lst ((e :: E').map .int), .lst []])) := by
            have hg2 : (S ++ (SO.lst (bkL { b with gr := g, fi := x, k := k }) :: [SO.lst ((e :: E').map D.int), SO.lst []]))[S.length + 1]? = some (.lst ((e :: E').map .int)) := by rw [st_get]; rfl
            have ha : atI ((e :: E').map D.int) 0 = some (.int e) := at0 _ _
            generalize bkL { b with gr := g, fi := x, k := k } = M at *
            generalize (e :: E').map D.int = EL at *
            clear c1 c2 c4 hw hx hg hk kb f1 f2 fin setT ct hh t3 will u0 u1 q q1 hE lc el e8
            walk_at "ev*"
          have e1 : exS (callN P (n + 5)) (.ite (.not (.call 48 (.cons (.var 0) (.cons (.var 1) (.cons (.idx (.var 5) (.cint 2)) (.cons (.var 6) .nil)))))) wB .nil) [some (bkD b), some (rdD r), some (.int r.T), some (.int r.L), some (.int r.W), some (.loc S.length), some (frD b.th), none, none] (S ++ (.lst (bkL { b with gr := g, fi := x, k := k }) :: [])) = .ok (.next, [some (bkD b), some (rdD r), some (.int r.T), some (.int r.L), some (.int r.W), some (.loc S.length), some (frD (lowF e 8)), some (.loc (S.length + 1)), none]) (S ++ (.lst (bkL { b with gr := g, fi := x, k := k }) :: [.lst ((e :: E').map .int), .lst []])) := by
            rw [t3]
            unfold wB
            rw [xSs_cons, u0, bnd_ok, sqK_n, xSs_cons, u1]
            show ((brS _ _ _ _ false _).bnd _) = _
            rw [brS_f, xSs_nil, bnd_ok, sqK_n, xSs_cons, u2, bnd_ok, sqK_n, xSs_nil]
          refine ⟨[some (bkD b), some (rdD r), some (.int r.T), some (.int r.L), some (.int r.W), some (.loc S.length), some (frD (lowF e 8)), some (.loc (S.length + 1)), none], [.lst (bkL { b with gr := g, fi := x, k := k, th := lowF e 8 }), .lst ((e :: E').map .int), .lst []], ?_⟩
          rw [xSs_cons, e1, bnd_ok, sqK_n, xSs_cons, setT, bnd_ok, sqK_n, xSs_nil, bnd_ok, sqK_n]
          exact fin { b with gr := g, fi := x, k := k, th := lowF e 8 } _ _ _
  · refine ⟨[some (bkD b), some (rdD r), some (.int r.T), some (.int r.L), some (.int r.W), some (.loc S.length), none, none, none], [.lst (bkL { b with gr := g, fi := x })], ?_⟩
    have er : mendF b r = some { b with gr := g, fi := x } := by
      unfold mendF
      rw [hw]
      dsimp only
      rw [if_neg c3]
    rw [er]
    have s6 : exS (callN P (n + 5)) (.ite (.cmp .eq (.idx (.var 0) (.cint 11)) (.cstr (PySem.Str.ofString "guess"))) gB .nil) [some (bkD b), some (rdD r), some (.int r.T), some (.int r.L), some (.int r.W), some (.loc S.length), none, none, none] (S ++ (.lst (bkL { b with gr := g, fi := x }) :: [])) = .ok (.next, [some (bkD b), some (rdD r), some (.int r.T), some (.int r.L), some (.int r.W), some (.loc S.length), none, none, none]) (S ++ (.lst (bkL { b with gr := g, fi := x }) :: [])) := by
      have d : (decide (b.ru = PySem.Str.ofString "guess")) = false := decide_eq_false c3
      rw [xS_ite]
      have t : truR (evE (callN P (n + 5)) (.cmp .eq (.idx (.var 0) (.cint 11)) (.cstr (PySem.Str.ofString "guess"))) [some (bkD b), some (rdD r), some (.int r.T), some (.int r.L), some (.int r.W), some (.loc S.length), none, none, none] (S ++ (.lst (bkL { b with gr := g, fi := x }) :: []))) = .ok false (S ++ (.lst (bkL { b with gr := g, fi := x }) :: [])) := by
        clear hw hx hg c1 c2 c3 f1 f2 fin er
        walk_at "ev*"
      rw [t, bnd_ok, brS_f, xSs_nil]
    rw [s6, bnd_ok, sqK_n]
    exact fin { b with gr := g, fi := x } [] _ _
end
end LW
namespace LW
open PySem PySem.Spec PyProof.Rows L2 SX
noncomputable section
open Classical
local macro_rules | `(tactic| walk_at "ev") => `(tactic| simp (config := { maxSteps := 3000000 }) (disch := first | assumption | omega | exact ⟨by omega, by omega⟩ | exact ⟨⟨by omega, by omega⟩, ⟨by omega, by omega⟩⟩ | exact Nat.le_of_ble_eq_true rfl | decide) only [bk0, bk1, bk2, bk3, bk4, bk5, bk6, bk7, bk8, bk9, bk10, bk11, bk12, rd0, rd1, rd2, rd3, bnd_ok, bnd_bad, binJ_eq, binK_eq, notK_eq, cmpJ_eq, cmpK_eq, idxJ_eq, idxK_eq, calJ_eq, clkJ_eq, clkK_eq, priJ_eq, isiJ_eq, metJ_eq, metI_t, metK_eq, lcJ_eq, lcK_eq, conJ_eq, conK_eq, andJ_eq, orJ_eq, rg2J_eq, nxtK_eq, setI1_eq, setI2_eq, setI3_eq, retK_eq,  vE_var, varK_ok, vE_int, vE_bl, vE_non, vE_str, vE_tup, vE_lst, vE_bin, vE_neg, vE_not, vE_and, vE_or, vE_cmp, vE_ite, brE_t, brE_f, vE_idx, vE_slc, vE_call, vE_callk, vE_prim, vE_isin, vE_meth, vE_lc, vE_gcon, toD_int, toD_strs, vE_chain, chnI_eq, chnK_eq, chnJ_t, chnJ_f, vE_tupG, tgJ_eq, tgK_eq, vE_qual, qlK_eq, vE_sumG, smK_eq, vE_lc2, l2K_eq, vEs_nil, vEs_cons, vA_one, vA_cons, vO_one, vO_cons, andK_t, andK_f, orK_t, orK_f, vT_nil, vT_cons, vI_seq, seqK_tup, seqK_rls, seqK_loc, seqL_ok, vI_range1, rg1_int, vI_range2, rg2_int,
  xS_asg, asgK_nm, asgT_nm, asgT_tp2, asgT_tp3, asgK_tp2, asgK_tp3, xS_par, parK_2, parK_3, xS_setS, xS_aug, augV_ok, augK_add, augK_sub, xS_augS, agR_some, agD_eq, agX_eq, agI_eq, agO_eq, idxM_loc, augD_add, augD_sub, xS_expr, xS_ret, xS_retN, xS_ite, brS_t, brS_f, xS_wh, whB_t, whB_f, whK_n, whK_c, whK_b, whK_r, xS_fo, foT_some, foK_n, foK_c, foK_b, foK_r, xS_brk, xS_cont, xS_pass, xSs_nil, xSs_cons, sqK_n, sqK_r, sqK_b, sqK_c,
  b_add, b_sub, b_mul, b_mulL, b_mulR, b_fdiv, b_mod, b_pow, b_addT, b_addL, addL_ok, b_repT, k_lt, k_le, k_gt, k_ge, k_eq, k_ne, k_isN, k_notN, k_in, k_nin, tr_str, q_int, q_bl, q_str, ofB_some, Option.map_some, tr_bl, tr_int, tr_non, tr_tup, tr_loc, trK_ok, td_bl, td_int, td_tup, i_tup, i_rls, i_loc, idxL_ok, okV_some, at0, at1, at2, at3, at_m1, tupK_ok, lstK_ok, negK_int, p_abs, p_int, p_intB, p_lenT, p_lenR, p_lenL, lenL_ok, p_max, p_min, p_tupT, p_tupL, tupL_ok, p_lstT, p_lstL, lstL_ok, isD_ok, m_app, appL_ok, m_pop, popL_ok, m_rev, revL_ok, recv_ok, recvL_ok, set_loc, setL_ok, setI_ok, new_eq, Bool.not_true, Bool.not_false, if_true, eq_self, decide_true, decide_false,
  List.set_cons_zero, List.set_cons_succ, List.getElem?_cons_zero, List.getElem?_cons_succ, List.length_cons, List.length_nil, Option.some.injEq])
local macro_rules | `(tactic| walk_at "ev*") => `(tactic| simp (config := { maxSteps := 3000000 }) (disch := first | assumption | omega | exact ⟨by omega, by omega⟩ | exact ⟨⟨by omega, by omega⟩, ⟨by omega, by omega⟩⟩ | exact Nat.le_of_ble_eq_true rfl | decide) only [bk0, bk1, bk2, bk3, bk4, bk5, bk6, bk7, bk8, bk9, bk10, bk11, bk12, rd0, rd1, rd2, rd3, bnd_ok, bnd_bad, binJ_eq, binK_eq, notK_eq, cmpJ_eq, cmpK_eq, idxJ_eq, idxK_eq, calJ_eq, clkJ_eq, clkK_eq, priJ_eq, isiJ_eq, metJ_eq, metI_t, metK_eq, lcJ_eq, lcK_eq, conJ_eq, conK_eq, andJ_eq, orJ_eq, rg2J_eq, nxtK_eq, setI1_eq, setI2_eq, setI3_eq, retK_eq,  vE_var, varK_ok, vE_int, vE_bl, vE_non, vE_str, vE_tup, vE_lst, vE_bin, vE_neg, vE_not, vE_and, vE_or, vE_cmp, vE_ite, brE_t, brE_f, vE_idx, vE_slc, vE_call, vE_callk, vE_prim, vE_isin, vE_meth, vE_lc, vE_gcon, toD_int, toD_strs, vE_chain, chnI_eq, chnK_eq, chnJ_t, chnJ_f, vE_tupG, tgJ_eq, tgK_eq, vE_qual, qlK_eq, vE_sumG, smK_eq, vE_lc2, l2K_eq, vEs_nil, vEs_cons, vA_one, vA_cons, vO_one, vO_cons, andK_t, andK_f, orK_t, orK_f, vT_nil, vT_cons, vI_seq, seqK_tup, seqK_rls, seqK_loc, seqL_ok, vI_range1, rg1_int, vI_range2, rg2_int,
  xS_asg, asgK_nm, asgT_nm, asgT_tp2, asgT_tp3, asgK_tp2, asgK_tp3, xS_par, parK_2, parK_3, xS_setS, xS_aug, augV_ok, augK_add, augK_sub, xS_augS, agR_some, agD_eq, agX_eq, agI_eq, agO_eq, idxM_loc, augD_add, augD_sub, xS_expr, xS_ret, xS_retN, xS_ite, brS_t, brS_f, xS_wh, whB_t, whB_f, whK_n, whK_c, whK_b, whK_r, xS_fo, foT_some, foK_n, foK_c, foK_b, foK_r, xS_brk, xS_cont, xS_pass, xSs_nil, xSs_cons, sqK_n, sqK_r, sqK_b, sqK_c,
  b_add, b_sub, b_mul, b_mulL, b_mulR, b_fdiv, b_mod, b_pow, b_addT, b_addL, addL_ok, b_repT, k_lt, k_le, k_gt, k_ge, k_eq, k_ne, k_isN, k_notN, k_in, k_nin, tr_str, q_int, q_bl, q_str, ofB_some, Option.map_some, tr_bl, tr_int, tr_non, tr_tup, tr_loc, trK_ok, td_bl, td_int, td_tup, i_tup, i_rls, i_loc, idxL_ok, okV_some, at0, at1, at2, at3, at_m1, tupK_ok, lstK_ok, negK_int, p_abs, p_int, p_intB, p_lenT, p_lenR, p_lenL, lenL_ok, p_max, p_min, p_tupT, p_tupL, tupL_ok, p_lstT, p_lstL, lstL_ok, isD_ok, m_app, appL_ok, m_pop, popL_ok, m_rev, revL_ok, recv_ok, recvL_ok, set_loc, setL_ok, setI_ok, new_eq, Bool.not_true, Bool.not_false, if_true, eq_self, decide_true, decide_false,
  List.set_cons_zero, List.set_cons_succ, List.getElem?_cons_zero, List.getElem?_cons_succ, List.length_cons, List.length_nil, Option.some.injEq, *])
local macro_rules | `(tactic| walk_at "evs") => `(tactic| simp (config := { maxSteps := 3000000 }) (disch := first | assumption | omega | exact ⟨by omega, by omega⟩ | exact ⟨⟨by omega, by omega⟩, ⟨by omega, by omega⟩⟩ | exact Nat.le_of_ble_eq_true rfl | decide) only [bk0, bk1, bk2, bk3, bk4, bk5, bk6, bk7, bk8, bk9, bk10, bk11, bk12, rd0, rd1, rd2, rd3, bnd_ok, bnd_bad, binJ_eq, binK_eq, notK_eq, cmpJ_eq, cmpK_eq, idxJ_eq, idxK_eq, calJ_eq, clkJ_eq, clkK_eq, priJ_eq, isiJ_eq, metJ_eq, metI_t, metK_eq, lcJ_eq, lcK_eq, conJ_eq, conK_eq, andJ_eq, orJ_eq, rg2J_eq, nxtK_eq, setI1_eq, setI2_eq, setI3_eq, retK_eq,  vE_var, varK_ok, vE_int, vE_bl, vE_non, vE_str, vE_tup, vE_lst, vE_bin, vE_neg, vE_not, vE_and, vE_or, vE_cmp, vE_ite, brE_t, brE_f, vE_idx, vE_slc, vE_call, vE_callk, vE_prim, vE_isin, vE_meth, vE_lc, vE_gcon, toD_int, toD_strs, vE_chain, chnI_eq, chnK_eq, chnJ_t, chnJ_f, vE_tupG, tgJ_eq, tgK_eq, vE_qual, qlK_eq, vE_sumG, smK_eq, vE_lc2, l2K_eq, vEs_nil, vEs_cons, vA_one, vA_cons, vO_one, vO_cons, andK_t, andK_f, orK_t, orK_f, vT_nil, vT_cons, vI_seq, seqK_tup, seqK_rls, seqK_loc, seqL_ok, vI_range1, rg1_int, vI_range2, rg2_int,
  xS_asg, asgK_nm, asgT_nm, asgT_tp2, asgT_tp3, asgK_tp2, asgK_tp3, xS_par, parK_2, parK_3, xS_setS, xS_aug, augV_ok, augK_add, augK_sub, xS_augS, agR_some, agD_eq, agX_eq, agI_eq, agO_eq, idxM_loc, augD_add, augD_sub, xS_expr, xS_ret, xS_retN, xS_ite, brS_t, brS_f, xS_wh, whB_t, whB_f, whK_n, whK_c, whK_b, whK_r, xS_fo, foT_some, foK_n, foK_c, foK_b, foK_r, xS_brk, xS_cont, xS_pass, xSs_nil, xSs_cons, sqK_n, sqK_r, sqK_b, sqK_c,
  b_add, b_sub, b_mul, b_mulL, b_mulR, b_fdiv, b_mod, b_pow, b_addT, b_addL, addL_ok, b_repT, k_lt, k_le, k_gt, k_ge, k_eq, k_ne, k_isN, k_notN, k_in, k_nin, tr_str, q_int, q_bl, q_str, ofB_some, Option.map_some, tr_bl, tr_int, tr_non, tr_tup, tr_loc, trK_ok, td_bl, td_int, td_tup, i_tup, i_rls, i_loc, idxL_ok, okV_some, at0, at1, at2, at3, at_m1, tupK_ok, lstK_ok, negK_int, p_abs, p_int, p_intB, p_lenT, p_lenR, p_lenL, lenL_ok, p_max, p_min, p_tupT, p_tupL, tupL_ok, p_lstT, p_lstL, lstL_ok, isD_ok, m_app, appL_ok, m_pop, popL_ok, m_rev, revL_ok, recv_ok, recvL_ok, set_loc, setL_ok, setI_ok, new_eq, Bool.not_true, Bool.not_false, if_true, eq_self, decide_true, decide_false,
  List.set_cons_zero, List.set_cons_succ, List.getElem?_cons_zero, List.getElem?_cons_succ, List.length_cons, List.length_nil, Option.some.injEq, List.cons_append, List.nil_append, List.append_assoc, Nat.reduceAdd, st_get, st_get0, st_set, st_set0, List.length_append, Nat.add_zero, Nat.zero_add, *])

/-! ### roads -/
theorem e_road (N : Nat) (hN : 1 ≤ N) (Sb G : Store) (l : Nat) (hB : Bag Sb l) : ∃ r Sb', callN P (N + 1) 42 [.loc l, .int 12, .int 12] (Sb ++ G) = .ok (rdD r) (Sb' ++ G) ∧ RdOk r ∧ Bag Sb' l ∧ Sb'.length = Sb.length := by
  rw [callN_eq N _ _ (fd := ⟨3, 5, b__law_road, false⟩) rfl rfl (Nat.le_of_ble_eq_true rfl)]
  obtain ⟨d1, Sb1, e1, a1, b1, B1, n1⟩ := draw_is dr34 N hN l 12 Sb G hB (by decide) (by decide)
  obtain ⟨d2, Sb2, e2, a2, b2, B2, n2⟩ := draw_is dr34 N hN l 12 Sb1 G B1 (by decide) (by decide)
  obtain ⟨d3, Sb3, e3, a3, b3, B3, n3⟩ := draw_is dr34 N hN l (12 + 1) Sb2 G B2 (by decide) (by decide)
  obtain ⟨d4, Sb4, e4, a4, b4, B4, n4⟩ := draw_is dr34 N hN l (12 + 1) Sb3 G B3 (by decide) (by decide)
  refine ⟨⟨d1 + 1, d1 + 1 + d3, d2 + 1, d2 + 1 + d4⟩, Sb4, ?_, ⟨⟨by show 1 ≤ d1 + 1; omega, by show d1 + 1 ≤ d1 + 1 + d3; omega⟩, by show d1 + 1 + d3 ≤ 2000; omega, ⟨by show 1 ≤ d2 + 1; omega, by show d2 + 1 ≤ d2 + 1 + d4; omega⟩, by show d2 + 1 + d4 ≤ 2000; omega⟩, B4, by omega⟩
  refine end_any (env := [some (.loc l), some (.int 12), some (.int 12), some (.int (d1 + 1)), some (.int (d2 + 1))]) ?_ rfl
  show exSs (callN P N) b__law_road [some (.loc l), some (.int 12), some (.int 12), none, none] (Sb ++ G) = _
  unfold b__law_road
  clear a1 a2 a3 a4 b1 b2 b3 b4 B1 B2 B3 B4 n1 n2 n3 n4 hB
  refine seq_eq [some (.loc l), some (.int 12), some (.int 12), some (.int (d1 + 1)), some (.int (d2 + 1))] (Sb2 ++ G) (by walk_at "ev*") ?_
  walk_at "ev*"
  rfl
theorem e_some (N : Nat) (hN : 2 ≤ N) (Sb G : Store) (l : Nat) (hB : Bag Sb l) : ∃ r Sb' X, callN P (N + 1) 47 [.loc l] (Sb ++ G) = .ok (rdD r) (Sb' ++ (G ++ X)) ∧ RdOk r ∧ Bag Sb' l ∧ Sb'.length = Sb.length := by
  rw [callN_eq N _ _ (fd := ⟨1, 4, b__law_some_road, false⟩) rfl rfl (Nat.le_of_ble_eq_true rfl)]
  suffices H : ∃ r Sb' X env, exSs (callN P N) b__law_some_road [some (.loc l), none, none, none] (Sb ++ G) = .ok (.ret (rdD r), env) (Sb' ++ (G ++ X)) ∧ RdOk r ∧ Bag Sb' l ∧ Sb'.length = Sb.length by
    obtain ⟨r, Sb', X, env, h, q⟩ := H
    exact ⟨r, Sb', X, end_any (env := env) h rfl, q⟩
  obtain ⟨w, Sb1, e1, a1, b1, B1, n1⟩ := draw_is dr34 N (by omega) l 6 Sb G hB (by decide) (by decide)
  have s0 : exS (callN P N) (.asg (.nm 1) (.call 34 (.cons (.var 0) (.cons (.cint 6) .nil)))) [some (.loc l), none, none, none] (Sb ++ G) = .ok (.next, [some (.loc l), some (.int w), none, none]) (Sb1 ++ G) := by
    clear a1 b1 B1 n1
    walk_at "ev*"
  unfold b__law_some_road
  rw [xSs_cons, s0, bnd_ok, sqK_n]
  clear s0 e1
  by_cases c0 : w = 0
  · obtain ⟨d1, Sb2, e1, a1, b1, B2, n2⟩ := draw_is dr34 N (by omega) l 400 Sb1 G B1 (by decide) (by decide)
    obtain ⟨d2, Sb3, e2, a2, b2, B3, n3⟩ := draw_is dr34 N (by omega) l 400 Sb2 G B2 (by decide) (by decide)
    obtain ⟨d3, Sb4, e3, a3, b3, B4, n4⟩ := draw_is dr34 N (by omega) l 601 Sb3 G B3 (by decide) (by decide)
    obtain ⟨d4, Sb5, e4, a4, b4, B5, n5⟩ := draw_is dr34 N (by omega) l 601 Sb4 G B4 (by decide) (by decide)
    refine ⟨⟨1 + d1, 1 + d1 + d3, 1 + d2, 1 + d2 + d4⟩, Sb5, [], [some (.loc l), some (.int w), some (.int (1 + d1)), some (.int (1 + d2))], ?_, ⟨⟨by show 1 ≤ 1 + d1; omega, by show 1 + d1 ≤ 1 + d1 + d3; omega⟩, by show 1 + d1 + d3 ≤ 2000; omega, ⟨by show 1 ≤ 1 + d2; omega, by show 1 + d2 ≤ 1 + d2 + d4; omega⟩, by show 1 + d2 + d4 ≤ 2000; omega⟩, B5, by omega⟩
    rw [List.append_nil]
    refine exS_get ?_
    have d : (decide (w = 0)) = true := decide_eq_true c0
    clear c0 a1 a2 a3 a4 b1 b2 b3 b4 B1 B2 B3 B4 B5 n1 n2 n3 n4 n5 hB
    walk_at "ev*"
    rfl
  · have d0 : (decide (w = 0)) = false := decide_eq_false c0
    have s1 : exS (callN P N) (.ite (.cmp .eq (.var 1) (.cint 0)) (.cons (.par [2, 3] (.cons (.bin .add (.cint 1) (.call 34 (.cons (.var 0) (.cons (.cint 400) .nil)))) (.cons (.bin .add (.cint 1) (.call 34 (.cons (.var 0) (.cons (.cint 400) .nil)))) .nil))) (.cons (.ret (.tup (.cons (.var 2) (.cons (.bin .add (.var 2) (.call 34 (.cons (.var 0) (.cons (.cint 601) .nil)))) (.cons (.var 3) (.cons (.bin .add (.var 3) (.call 34 (.cons (.var 0) (.cons (.cint 601) .nil)))) .nil)))))) .nil)) .nil) [some (.loc l), some (.int w), none, none] (Sb1 ++ G) = .ok (.next, [some (.loc l), some (.int w), none, none]) (Sb1 ++ G) := by
      clear c0 B1 n1 a1 b1
      walk_at "ev*"
    rw [xSs_cons, s1, bnd_ok, sqK_n]
    clear s1
    by_cases c1 : w = 1
    · obtain ⟨d, Sb2, e2, a2, B2, n2⟩ := pick_x pk35 N hN l [rdD ⟨1, 1000, 1, 1000⟩, rdD ⟨1000, 1000, 1000, 1000⟩, rdD ⟨1, 1000, 1000, 1000⟩, rdD ⟨500, 500, 1, 2⟩, rdD ⟨1, 10, 1, 1⟩] Sb1 G B1 (by simp) (by simp)
      obtain ⟨r, rfl, hr⟩ : ∃ r, d = rdD r ∧ RdOk r := by
        simp only [List.mem_cons, List.not_mem_nil, or_false] at a2
        rcases a2 with rfl | rfl | rfl | rfl | rfl <;> exact ⟨_, rfl, ⟨⟨by decide, by decide⟩, by decide, ⟨by decide, by decide⟩, by decide⟩⟩
      refine ⟨r, Sb2, [.lst [rdD ⟨1, 1000, 1, 1000⟩, rdD ⟨1000, 1000, 1000, 1000⟩, rdD ⟨1, 1000, 1000, 1000⟩, rdD ⟨500, 500, 1, 2⟩, rdD ⟨1, 10, 1, 1⟩]], [some (.loc l), some (.int w), none, none], ?_, hr, B2, by omega⟩
      refine exS_get ?_
      have dd : (decide (w = 1)) = true := decide_eq_true c1
      generalize Sb2 ++ (G ++ [SO.lst [rdD ⟨1, 1000, 1, 1000⟩, rdD ⟨1000, 1000, 1000, 1000⟩, rdD ⟨1, 1000, 1000, 1000⟩, rdD ⟨500, 500, 1, 2⟩, rdD ⟨1, 10, 1, 1⟩]]) = S2 at e2 ⊢
      generalize Sb1 ++ G = S1 at e2 ⊢
      have e2' : callN P N 35 [.loc l, .loc S1.length] (S1 ++ [SO.lst [.tup [.int 1, .int 1000, .int 1, .int 1000], .tup [.int 1000, .int 1000, .int 1000, .int 1000], .tup [.int 1, .int 1000, .int 1000, .int 1000], .tup [.int 500, .int 500, .int 1, .int 2], .tup [.int 1, .int 10, .int 1, .int 1]]]) = .ok (rdD r) S2 := e2
      clear e2 c0 c1 B1 B2 n1 n2 a1 b1 hr hB
      walk_at "ev*"
    · obtain ⟨M, rfl⟩ : ∃ M, N = M + 1 := ⟨N - 1, by omega⟩
      obtain ⟨r, Sb2, e2, hr, B2, n2⟩ := e_road M (by omega) Sb1 G l B1
      refine ⟨r, Sb2, [], [some (.loc l), some (.int w), none, none], ?_, hr, B2, by omega⟩
      rw [List.append_nil]
      have d1 : (decide (w = 1)) = false := decide_eq_false c1
      have s2 : exS (callN P (M + 1)) (.ite (.cmp .eq (.var 1) (.cint 1)) (.cons (.ret (.call 35 (.cons (.var 0) (.cons (.lst (.cons (.tup (.cons (.cint 1) (.cons (.cint 1000) (.cons (.cint 1) (.cons (.cint 1000) .nil))))) (.cons (.tup (.cons (.cint 1000) (.cons (.cint 1000) (.cons (.cint 1000) (.cons (.cint 1000) .nil))))) (.cons (.tup (.cons (.cint 1) (.cons (.cint 1000) (.cons (.cint 1000) (.cons (.cint 1000) .nil))))) (.cons (.tup (.cons (.cint 500) (.cons (.cint 500) (.cons (.cint 1) (.cons (.cint 2) .nil))))) (.cons (.tup (.cons (.cint 1) (.cons (.cint 10) (.cons (.cint 1) (.cons (.cint 1) .nil))))) .nil)))))) .nil)))) .nil) .nil) [some (.loc l), some (.int w), none, none] (Sb1 ++ G) = .ok (.next, [some (.loc l), some (.int w), none, none]) (Sb1 ++ G) := by
        clear c0 c1 B1 B2 n1 n2 hr e2 a1 b1
        walk_at "ev*"
      rw [xSs_cons, s2, bnd_ok, sqK_n]
      refine exS_get ?_
      clear s2 c0 c1 B1 B2 n1 n2 hr a1 b1
      walk_at "ev*"
/-! ### books that are sure -/
structure B5 (b : Bk) : Prop extends BkOk b where
  gr2 : b.gr ≤ 1000
  fi2 : b.fi ≤ 1000
  k2 : b.k ≤ 9
  th3 : b.th.2 ≤ b.th.1
theorem e_made (n : Nat) (b : Bk) (r : Rd) (S : Store) (hb : B5 b) (hr : RdOk r) (hT : r.T ≤ 1000) : ∃ b', callN P (n + 1) 46 [bkD b, rdD r] S = .ok (bkD b') S ∧ B5 b' := by
  rw [callN_eq n _ _ (fd := ⟨2, 3, b__law_made_sure, true⟩) rfl rfl (Nat.le_of_ble_eq_true rfl)]
  have h1 := hr.lo; have h2 := hr.low
  have hL : 2 ≤ r.lo + r.low := by omega
  have hT' : r.hi + r.high ≤ 1000 := hT
  obtain ⟨g, hg⟩ : ∃ g, g = max b.gr (r.hi + r.high - r.lo - r.low) := ⟨_, rfl⟩
  obtain ⟨x, hx⟩ : ∃ x, x = max b.fi (r.hi + r.high) := ⟨_, rfl⟩
  have g0 : 1 ≤ g ∧ g ≤ 1000 := by have := hb.gr; have := hb.gr2; omega
  have x0 : 1 ≤ x ∧ x ≤ 1000 := by have := hb.fi; have := hb.fi2; omega
  have s0 : exS (callN P n) (.asg (.nm 2) (.prim .list (.cons (.var 0) .nil))) [some (bkD b), some (rdD r), none] S = .ok (.next, [some (bkD b), some (rdD r), some (.loc S.length)]) (S ++ (.lst (bkL b) :: [])) := by
    have pl : primD .list [bkD b] S = .ok (.loc S.length) (S ++ [.lst (bkL b)]) := rfl
    clear hg hx g0 x0
    walk_at "ev*"
  have s1 : exS (callN P n) (.setS (.var 2) (.cint 2) (.prim .max (.cons (.idx (.var 0) (.cint 2)) (.cons (.bin .sub (.bin .sub (.bin .add (.idx (.var 1) (.cint 1)) (.idx (.var 1) (.cint 3))) (.idx (.var 1) (.cint 0))) (.idx (.var 1) (.cint 2))) .nil)))) [some (bkD b), some (rdD r), some (.loc S.length)] (S ++ (.lst (bkL b) :: [])) = .ok (.next, [some (bkD b), some (rdD r), some (.loc S.length)]) (S ++ (.lst (bkL { b with gr := g }) :: [])) := by
    have h0 := st0 S [] (bkL b)
    have h1 := sts S [] (bkL b) (bkL { b with gr := g })
    have h4 : ixN (bkL b).length 2 = some 2 := rfl
    have h5 : (bkL b).set 2 (.int g) = bkL { b with gr := g } := rfl
    generalize bkL { b with gr := g } = M at *
    generalize bkL b = LL at *
    clear s0 hx g0 x0 hT' hL hT
    subst hg
    walk_at "ev*"
  have s2 : exS (callN P n) (.setS (.var 2) (.cint 3) (.prim .max (.cons (.idx (.var 0) (.cint 3)) (.cons (.bin .add (.idx (.var 1) (.cint 1)) (.idx (.var 1) (.cint 3))) .nil)))) [some (bkD b), some (rdD r), some (.loc S.length)] (S ++ (.lst (bkL { b with gr := g }) :: [])) = .ok (.next, [some (bkD b), some (rdD r), some (.loc S.length)]) (S ++ (.lst (bkL { b with gr := g, fi := x }) :: [])) := by
    have h0 := st0 S [] (bkL { b with gr := g })
    have h1 := sts S [] (bkL { b with gr := g }) (bkL { b with gr := g, fi := x })
    have h4 : ixN (bkL { b with gr := g }).length 3 = some 3 := rfl
    have h5 : (bkL { b with gr := g }).set 3 (.int x) = bkL { b with gr := g, fi := x } := rfl
    generalize bkL { b with gr := g, fi := x } = M at *
    generalize bkL { b with gr := g } = LL at *
    clear s0 s1 hg g0 x0 hT' hL hT
    subst hx
    walk_at "ev*"
  have fin : ∀ (M : Bk), exSs (callN P n) (.cons (.ret (.prim .tuple (.cons (.var 2) .nil))) .nil) [some (bkD b), some (rdD r), some (.loc S.length)] (S ++ (.lst (bkL M) :: [])) = .ok (.ret (bkD M), [some (bkD b), some (rdD r), some (.loc S.length)]) (S ++ (.lst (bkL M) :: [])) := fun M => by
    have h0 := st0 S [] (bkL M)
    rw [bkD_L M]
    generalize bkL M = LL at *
    clear s0 s1 s2 hg hx g0 x0 hT' hL hT
    walk_at "ev*"
  by_cases c : b.ru = PySem.Str.ofString "guess"
  · refine ⟨{ b with gr := g, fi := x, k := 9, th := (9, 1) }, ?_, ⟨⟨⟨(by decide : (1 : Int) ≤ 9), (by decide : (9 : Int) ≤ 100)⟩, ti_lit (by decide) (by decide) (by decide), (by decide : (0 : Int) < 9), ⟨g0.1, by show g ≤ 10000; omega⟩, ⟨x0.1, by show x ≤ 10000; omega⟩, hb.ga, hb.st, hb.mo, hb.wa⟩, g0.2, x0.2, (by decide : (9 : Int) ≤ 9), (by decide : (1 : Int) ≤ 9)⟩⟩
    refine end_app (env := [some (bkD b), some (rdD r), some (.loc S.length)]) [.lst (bkL { b with gr := g, fi := x, k := 9, th := (9, 1) })] ?_ rfl rfl
    show exSs (callN P n) b__law_made_sure [some (bkD b), some (rdD r), none] S = _
    unfold b__law_made_sure
    have s3 : exS (callN P n) (.ite (.cmp .eq (.idx (.var 0) (.cint 11)) (.cstr (PySem.Str.ofString "guess"))) (.cons (.setS (.var 2) (.cint 0) (.cint 9)) (.cons (.setS (.var 2) (.cint 1) (.tup (.cons (.cint 9) (.cons (.cint 1) .nil)))) .nil)) .nil) [some (bkD b), some (rdD r), some (.loc S.length)] (S ++ (.lst (bkL { b with gr := g, fi := x }) :: [])) = .ok (.next, [some (bkD b), some (rdD r), some (.loc S.length)]) (S ++ (.lst (bkL { b with gr := g, fi := x, k := 9, th := (9, 1) }) :: [])) := by
      have d : (decide (b.ru = PySem.Str.ofString "guess")) = true := decide_eq_true c
      have h0 := st0 S [] (bkL { b with gr := g, fi := x })
      have h1 := sts S [] (bkL { b with gr := g, fi := x }) (bkL { b with gr := g, fi := x, k := 9 })
      have h4 : ixN (bkL { b with gr := g, fi := x }).length 0 = some 0 := rfl
      have h5 : (bkL { b with gr := g, fi := x }).set 0 (.int 9) = bkL { b with gr := g, fi := x, k := 9 } := rfl
      have k0 := st0 S [] (bkL { b with gr := g, fi := x, k := 9 })
      have k1 := sts S [] (bkL { b with gr := g, fi := x, k := 9 }) (bkL { b with gr := g, fi := x, k := 9, th := (9, 1) })
      have k4 : ixN (bkL { b with gr := g, fi := x, k := 9 }).length 1 = some 1 := rfl
      have k5 : (bkL { b with gr := g, fi := x, k := 9 }).set 1 (.tup [.int 9, .int 1]) = bkL { b with gr := g, fi := x, k := 9, th := (9, 1) } := rfl
      generalize bkL { b with gr := g, fi := x, k := 9, th := (9, 1) } = M3 at *
      generalize bkL { b with gr := g, fi := x, k := 9 } = M2 at *
      generalize bkL { b with gr := g, fi := x } = M1 at *
      clear s0 s1 s2 hg hx g0 x0 hT' hL hT c fin
      walk_at "ev*"
    rw [xSs_cons, s0, bnd_ok, sqK_n, xSs_cons, s1, bnd_ok, sqK_n, xSs_cons, s2, bnd_ok, sqK_n, xSs_cons, s3, bnd_ok, sqK_n]
    exact fin _
  · refine ⟨{ b with gr := g, fi := x }, ?_, ⟨⟨hb.k, hb.th, hb.thp, ⟨g0.1, by show g ≤ 10000; omega⟩, ⟨x0.1, by show x ≤ 10000; omega⟩, hb.ga, hb.st, hb.mo, hb.wa⟩, g0.2, x0.2, hb.k2, hb.th3⟩⟩
    refine end_app (env := [some (bkD b), some (rdD r), some (.loc S.length)]) [.lst (bkL { b with gr := g, fi := x })] ?_ rfl rfl
    show exSs (callN P n) b__law_made_sure [some (bkD b), some (rdD r), none] S = _
    unfold b__law_made_sure
    have s3 : exS (callN P n) (.ite (.cmp .eq (.idx (.var 0) (.cint 11)) (.cstr (PySem.Str.ofString "guess"))) (.cons (.setS (.var 2) (.cint 0) (.cint 9)) (.cons (.setS (.var 2) (.cint 1) (.tup (.cons (.cint 9) (.cons (.cint 1) .nil)))) .nil)) .nil) [some (bkD b), some (rdD r), some (.loc S.length)] (S ++ (.lst (bkL { b with gr := g, fi := x }) :: [])) = .ok (.next, [some (bkD b), some (rdD r), some (.loc S.length)]) (S ++ (.lst (bkL { b with gr := g, fi := x }) :: [])) := by
      have d : (decide (b.ru = PySem.Str.ofString "guess")) = false := decide_eq_false c
      generalize bkL { b with gr := g, fi := x } = M1 at *
      clear s0 s1 s2 hg hx g0 x0 hT' hL hT c fin
      walk_at "ev*"
    rw [xSs_cons, s0, bnd_ok, sqK_n, xSs_cons, s1, bnd_ok, sqK_n, xSs_cons, s2, bnd_ok, sqK_n, xSs_cons, s3, bnd_ok, sqK_n]
    exact fin _
/-! ### books that are less -/
def leB : Ss := .cons (.ite (.cmp .gt (.idx (.var 1) (.var 3)) (.idx (.var 0) (.var 3))) (.cons (.asg (.nm 4) (.prim .list (.cons (.var 1) .nil))) (.cons (.augS (.var 4) (.var 3) .sub (.cint 1)) (.cons (.expr (.meth .append (.var 2) (.cons (.prim .tuple (.cons (.var 4) .nil)) .nil))) .nil))) .nil) .nil
theorem le_eq : b__law_less = .cons (.asg (.nm 2) (.lst .nil)) (.cons (.fo (.nm 3) (.seq (.tup (.cons (.cint 2) (.cons (.cint 3) (.cons (.cint 0) .nil))))) leB) (.cons (.ret (.var 2)) .nil)) := rfl
theorem le_turn (F : Fns) (S G : Store) (b m o : Bk) (p : Int) (j : Nat) (vb vm : Int) (os : List Bk) (ho : os.length ≤ 10) (hvb : ∀ S, idxD (bkD b) (.int p) S = .ok (.int vb) S) (hvm : ∀ S, idxD (bkD m) (.int p) S = .ok (.int vm) S) (ha : atI (bkL m) p = some (.int vm)) (hi : ixN (bkL m).length p = some j) (hs : (bkL m).set j (.int (vm - 1)) = bkL o) (o4 : Option D) :
    ∃ (os' : List Bk) (G' : Store) (o4' : Option D), exSs F leB [some (bkD b), some (bkD m), some (.loc S.length), some (.int p), o4] (S ++ (.lst (os.map bkD) :: G)) = .ok (.next, [some (bkD b), some (bkD m), some (.loc S.length), some (.int p), o4']) (S ++ (.lst (os'.map bkD) :: G')) ∧ os'.length ≤ os.length + 1 ∧ ∀ q ∈ os', q ∈ os ∨ (q = o ∧ vb < vm) := by
  have L0 : LINE = 16777216 := rfl
  unfold leB
  by_cases c : vb < vm
  · refine ⟨os ++ [o], G ++ [.lst (bkL o)], some (.loc (S ++ (.lst (os.map bkD) :: G)).length), ?_, by rw [List.length_append]; simp, fun q hq => ?_⟩
    · have d : (decide (vb < vm)) = true := decide_eq_true c
      have pl : ∀ S, primD .list [bkD m] S = .ok (.loc S.length) (S ++ [.lst (bkL m)]) := fun S => rfl
      have e0 : ∀ L : List D, S ++ (SO.lst L :: G) ++ [SO.lst (bkL m)] = S ++ (SO.lst L :: (G ++ [SO.lst (bkL m)])) := fun L => by simp
      have n0 : ∀ L : List D, (S ++ (SO.lst L :: G)).length = S.length + (G.length + 1) := fun L => by simp
      have g0 : (S ++ (SO.lst (os.map bkD) :: (G ++ [SO.lst (bkL m)])))[S.length + (G.length + 1)]? = some (.lst (bkL m)) := by rw [st_get]; simp
      have w0 : (S ++ (SO.lst (os.map bkD) :: (G ++ [SO.lst (bkL m)]))).set (S.length + (G.length + 1)) (.lst (bkL o)) = S ++ (SO.lst (os.map bkD) :: (G ++ [SO.lst (bkL o)])) := by
        rw [st_set]
        congr 1
        simp
      have g1 : (S ++ (SO.lst (os.map bkD) :: (G ++ [SO.lst (bkL o)])))[S.length + (G.length + 1)]? = some (.lst (bkL o)) := by rw [st_get]; simp
      have g2 := st0 S (G ++ [SO.lst (bkL o)]) (os.map bkD)
      have w2 := sts S (G ++ [SO.lst (bkL o)]) (os.map bkD) (os.map bkD ++ [bkD o])
      have hl : (os.map bkD).length < LINE := by rw [List.length_map]; omega
      have eo : D.tup (bkL o) = bkD o := rfl
      rw [List.map_append, List.map_cons, List.map_nil, n0 (os.map bkD)]
      generalize bkD o = oD at *
      generalize bkL o = oL at *
      generalize bkL m = mL at *
      generalize os.map bkD = osD at *
      generalize G.length + 1 = gl at *
      clear c ho
      walk_at "ev*"
    · rcases List.mem_append.mp hq with z | z
      · exact .inl z
      · exact .inr ⟨List.mem_singleton.mp z, c⟩
  · refine ⟨os, G, o4, ?_, by omega, fun q hq => .inl hq⟩
    have d : (decide (vb < vm)) = false := decide_eq_false c
    clear c ho hs hi ha
    walk_at "ev*"
theorem e_less (n : Nat) (b m : Bk) (r : Rd) (hb : BkOk b) (hm : MendR b r m) (S : Store) : ∃ (os : List Bk) (G : Store), callN P (n + 1) 50 [bkD b, bkD m] S = .ok (.loc S.length) (S ++ (.lst (os.map bkD) :: G)) ∧ ∀ q ∈ os, BkOk q ∧ faultF q r ≠ PySem.Str.ofString "" := by
  rw [callN_eq n _ _ (fd := ⟨2, 5, b__law_less, false⟩) rfl rfl (Nat.le_of_ble_eq_true rfl)]
  obtain ⟨o1, G1, x1, e1, l1, q1⟩ := le_turn (callN P n) S [] b m { m with gr := m.gr - 1 } 2 2 b.gr m.gr [] (by simp) (fun _ => rfl) (fun _ => rfl) rfl rfl rfl none
  obtain ⟨o2, G2, x2, e2, l2, q2⟩ := le_turn (callN P n) S G1 b m { m with fi := m.fi - 1 } 3 3 b.fi m.fi o1 (by simp only [List.length_nil] at l1; omega) (fun _ => rfl) (fun _ => rfl) rfl rfl rfl x1
  obtain ⟨o3, G3, x3, e3, l3, q3⟩ := le_turn (callN P n) S G2 b m { m with k := m.k - 1 } 0 0 b.k m.k o2 (by simp only [List.length_nil] at l1; omega) (fun _ => rfl) (fun _ => rfl) rfl rfl rfl x2
  refine ⟨o3, G3, end_any (env := [some (bkD b), some (bkD m), some (.loc S.length), some (.int 0), x3]) ?_ rfl, fun q hq => ?_⟩
  · show exSs (callN P n) b__law_less [some (bkD b), some (bkD m), none, none, none] S = _
    rw [le_eq]
    have s0 : exS (callN P n) (.asg (.nm 2) (.lst .nil)) [some (bkD b), some (bkD m), none, none, none] S = .ok (.next, [some (bkD b), some (bkD m), some (.loc S.length), none, none]) (S ++ (.lst ([].map bkD) :: [])) := by
      walk_at "ev"
      rfl
    have s1 : exS (callN P n) (.fo (.nm 3) (.seq (.tup (.cons (.cint 2) (.cons (.cint 3) (.cons (.cint 0) .nil))))) leB) [some (bkD b), some (bkD m), some (.loc S.length), none, none] (S ++ (.lst ([].map bkD) :: [])) = .ok (.next, [some (bkD b), some (bkD m), some (.loc S.length), some (.int 0), x3]) (S ++ (.lst (o3.map bkD) :: G3)) := by
      rw [xS_fo]
      have i0 : evIt (callN P n) (.seq (.tup (.cons (.cint 2) (.cons (.cint 3) (.cons (.cint 0) .nil))))) [some (bkD b), some (bkD m), some (.loc S.length), none, none] (S ++ (.lst ([].map bkD) :: [])) = .ok ⟨[.int 2, .int 3, .int 0], none⟩ (S ++ (.lst ([].map bkD) :: [])) := by walk_at "ev"
      rw [i0, bnd_ok]
      show foS (callN P n) (.nm 3) leB ⟨[.int 2, .int 3, .int 0], none⟩ [.int 2, .int 3, .int 0] _ _ = _
      rw [fo_cons _ _ _ _ _ _ _ _ (here_none _ _), asgT_nm, foT_some]
      simp only [List.set_cons_zero, List.set_cons_succ]
      rw [e1, bnd_ok, foK_n, fo_cons _ _ _ _ _ _ _ _ (here_none _ _), asgT_nm, foT_some]
      simp only [List.set_cons_zero, List.set_cons_succ]
      rw [e2, bnd_ok, foK_n, fo_cons _ _ _ _ _ _ _ _ (here_none _ _), asgT_nm, foT_some]
      simp only [List.set_cons_zero, List.set_cons_succ]
      rw [e3, bnd_ok, foK_n, fo_nil _ _ _ _ _ _ (here_none _ _)]
    rw [xSs_cons, s0, bnd_ok, sqK_n, xSs_cons, s1, bnd_ok, sqK_n]
    walk_at "ev"
  · rcases q3 q hq with z | ⟨e, c⟩
    · rcases q2 q z with z | ⟨e, c⟩
      · rcases q1 q z with z | ⟨e, c⟩
        · cases z
        · subst e
          exact less_gr hb hm c
      · subst e
        exact less_fi hb hm c
    · subst e
      exact less_k hb hm c
end
end LW
namespace LW
open PySem PySem.Spec PyProof.Rows L2 SX
noncomputable section
open Classical
local macro_rules | `(tactic| walk_at "ev") => `(tactic| simp (config := { maxSteps := 3000000 }) (disch := first | assumption | omega | exact ⟨by omega, by omega⟩ | exact ⟨⟨by omega, by omega⟩, ⟨by omega, by omega⟩⟩ | exact Nat.le_of_ble_eq_true rfl | decide) only [bk0, bk1, bk2, bk3, bk4, bk5, bk6, bk7, bk8, bk9, bk10, bk11, bk12, rd0, rd1, rd2, rd3, bnd_ok, bnd_bad, binJ_eq, binK_eq, notK_eq, cmpJ_eq, cmpK_eq, idxJ_eq, idxK_eq, calJ_eq, clkJ_eq, clkK_eq, priJ_eq, isiJ_eq, metJ_eq, metI_t, metK_eq, lcJ_eq, lcK_eq, conJ_eq, conK_eq, andJ_eq, orJ_eq, rg2J_eq, nxtK_eq, setI1_eq, setI2_eq, setI3_eq, retK_eq,  vE_var, varK_ok, vE_int, vE_bl, vE_non, vE_str, vE_tup, vE_lst, vE_bin, vE_neg, vE_not, vE_and, vE_or, vE_cmp, vE_ite, brE_t, brE_f, vE_idx, vE_slc, vE_call, vE_callk, vE_prim, vE_isin, vE_meth, vE_lc, vE_gcon, toD_int, toD_strs, vE_chain, chnI_eq, chnK_eq, chnJ_t, chnJ_f, vE_tupG, tgJ_eq, tgK_eq, vE_qual, qlK_eq, vE_sumG, smK_eq, vE_lc2, l2K_eq, vEs_nil, vEs_cons, vA_one, vA_cons, vO_one, vO_cons, andK_t, andK_f, orK_t, orK_f, vT_nil, vT_cons, vI_seq, seqK_tup, seqK_rls, seqK_loc, seqL_ok, vI_range1, rg1_int, vI_range2, rg2_int,
  xS_asg, asgK_nm, asgT_nm, asgT_tp2, asgT_tp3, asgK_tp2, asgK_tp3, xS_par, parK_2, parK_3, xS_setS, xS_aug, augV_ok, augK_add, augK_sub, xS_augS, agR_some, agD_eq, agX_eq, agI_eq, agO_eq, idxM_loc, augD_add, augD_sub, xS_expr, xS_ret, xS_retN, xS_ite, brS_t, brS_f, xS_wh, whB_t, whB_f, whK_n, whK_c, whK_b, whK_r, xS_fo, foT_some, foK_n, foK_c, foK_b, foK_r, xS_brk, xS_cont, xS_pass, xSs_nil, xSs_cons, sqK_n, sqK_r, sqK_b, sqK_c,
  b_add, b_sub, b_mul, b_mulL, b_mulR, b_fdiv, b_mod, b_pow, b_addT, b_addL, addL_ok, b_repT, k_lt, k_le, k_gt, k_ge, k_eq, k_ne, k_isN, k_notN, k_in, k_nin, tr_str, q_int, q_bl, q_str, ofB_some, Option.map_some, tr_bl, tr_int, tr_non, tr_tup, tr_loc, trK_ok, td_bl, td_int, td_tup, i_tup, i_rls, i_loc, idxL_ok, okV_some, at0, at1, at2, at3, at_m1, tupK_ok, lstK_ok, negK_int, p_abs, p_int, p_intB, p_lenT, p_lenR, p_lenL, lenL_ok, p_max, p_min, p_tupT, p_tupL, tupL_ok, p_lstT, p_lstL, lstL_ok, isD_ok, m_app, appL_ok, m_pop, popL_ok, m_rev, revL_ok, recv_ok, recvL_ok, set_loc, setL_ok, setI_ok, new_eq, Bool.not_true, Bool.not_false, if_true, eq_self, decide_true, decide_false,
  List.set_cons_zero, List.set_cons_succ, List.getElem?_cons_zero, List.getElem?_cons_succ, List.length_cons, List.length_nil, Option.some.injEq])
local macro_rules | `(tactic| walk_at "ev*") => `(tactic| simp (config := { maxSteps := 3000000 }) (disch := first | assumption | omega | exact ⟨by omega, by omega⟩ | exact ⟨⟨by omega, by omega⟩, ⟨by omega, by omega⟩⟩ | exact Nat.le_of_ble_eq_true rfl | decide) only [bk0, bk1, bk2, bk3, bk4, bk5, bk6, bk7, bk8, bk9, bk10, bk11, bk12, rd0, rd1, rd2, rd3, bnd_ok, bnd_bad, binJ_eq, binK_eq, notK_eq, cmpJ_eq, cmpK_eq, idxJ_eq, idxK_eq, calJ_eq, clkJ_eq, clkK_eq, priJ_eq, isiJ_eq, metJ_eq, metI_t, metK_eq, lcJ_eq, lcK_eq, conJ_eq, conK_eq, andJ_eq, orJ_eq, rg2J_eq, nxtK_eq, setI1_eq, setI2_eq, setI3_eq, retK_eq,  vE_var, varK_ok, vE_int, vE_bl, vE_non, vE_str, vE_tup, vE_lst, vE_bin, vE_neg, vE_not, vE_and, vE_or, vE_cmp, vE_ite, brE_t, brE_f, vE_idx, vE_slc, vE_call, vE_callk, vE_prim, vE_isin, vE_meth, vE_lc, vE_gcon, toD_int, toD_strs, vE_chain, chnI_eq, chnK_eq, chnJ_t, chnJ_f, vE_tupG, tgJ_eq, tgK_eq, vE_qual, qlK_eq, vE_sumG, smK_eq, vE_lc2, l2K_eq, vEs_nil, vEs_cons, vA_one, vA_cons, vO_one, vO_cons, andK_t, andK_f, orK_t, orK_f, vT_nil, vT_cons, vI_seq, seqK_tup, seqK_rls, seqK_loc, seqL_ok, vI_range1, rg1_int, vI_range2, rg2_int,
  xS_asg, asgK_nm, asgT_nm, asgT_tp2, asgT_tp3, asgK_tp2, asgK_tp3, xS_par, parK_2, parK_3, xS_setS, xS_aug, augV_ok, augK_add, augK_sub, xS_augS, agR_some, agD_eq, agX_eq, agI_eq, agO_eq, idxM_loc, augD_add, augD_sub, xS_expr, xS_ret, xS_retN, xS_ite, brS_t, brS_f, xS_wh, whB_t, whB_f, whK_n, whK_c, whK_b, whK_r, xS_fo, foT_some, foK_n, foK_c, foK_b, foK_r, xS_brk, xS_cont, xS_pass, xSs_nil, xSs_cons, sqK_n, sqK_r, sqK_b, sqK_c,
  b_add, b_sub, b_mul, b_mulL, b_mulR, b_fdiv, b_mod, b_pow, b_addT, b_addL, addL_ok, b_repT, k_lt, k_le, k_gt, k_ge, k_eq, k_ne, k_isN, k_notN, k_in, k_nin, tr_str, q_int, q_bl, q_str, ofB_some, Option.map_some, tr_bl, tr_int, tr_non, tr_tup, tr_loc, trK_ok, td_bl, td_int, td_tup, i_tup, i_rls, i_loc, idxL_ok, okV_some, at0, at1, at2, at3, at_m1, tupK_ok, lstK_ok, negK_int, p_abs, p_int, p_intB, p_lenT, p_lenR, p_lenL, lenL_ok, p_max, p_min, p_tupT, p_tupL, tupL_ok, p_lstT, p_lstL, lstL_ok, isD_ok, m_app, appL_ok, m_pop, popL_ok, m_rev, revL_ok, recv_ok, recvL_ok, set_loc, setL_ok, setI_ok, new_eq, Bool.not_true, Bool.not_false, if_true, eq_self, decide_true, decide_false,
  List.set_cons_zero, List.set_cons_succ, List.getElem?_cons_zero, List.getElem?_cons_succ, List.length_cons, List.length_nil, Option.some.injEq, *])
local macro_rules | `(tactic| walk_at "evs") => `(tactic| simp (config := { maxSteps := 3000000 }) (disch := first | assumption | omega | exact ⟨by omega, by omega⟩ | exact ⟨⟨by omega, by omega⟩, ⟨by omega, by omega⟩⟩ | exact Nat.le_of_ble_eq_true rfl | decide) only [bk0, bk1, bk2, bk3, bk4, bk5, bk6, bk7, bk8, bk9, bk10, bk11, bk12, rd0, rd1, rd2, rd3, bnd_ok, bnd_bad, binJ_eq, binK_eq, notK_eq, cmpJ_eq, cmpK_eq, idxJ_eq, idxK_eq, calJ_eq, clkJ_eq, clkK_eq, priJ_eq, isiJ_eq, metJ_eq, metI_t, metK_eq, lcJ_eq, lcK_eq, conJ_eq, conK_eq, andJ_eq, orJ_eq, rg2J_eq, nxtK_eq, setI1_eq, setI2_eq, setI3_eq, retK_eq,  vE_var, varK_ok, vE_int, vE_bl, vE_non, vE_str, vE_tup, vE_lst, vE_bin, vE_neg, vE_not, vE_and, vE_or, vE_cmp, vE_ite, brE_t, brE_f, vE_idx, vE_slc, vE_call, vE_callk, vE_prim, vE_isin, vE_meth, vE_lc, vE_gcon, toD_int, toD_strs, vE_chain, chnI_eq, chnK_eq, chnJ_t, chnJ_f, vE_tupG, tgJ_eq, tgK_eq, vE_qual, qlK_eq, vE_sumG, smK_eq, vE_lc2, l2K_eq, vEs_nil, vEs_cons, vA_one, vA_cons, vO_one, vO_cons, andK_t, andK_f, orK_t, orK_f, vT_nil, vT_cons, vI_seq, seqK_tup, seqK_rls, seqK_loc, seqL_ok, vI_range1, rg1_int, vI_range2, rg2_int,
  xS_asg, asgK_nm, asgT_nm, asgT_tp2, asgT_tp3, asgK_tp2, asgK_tp3, xS_par, parK_2, parK_3, xS_setS, xS_aug, augV_ok, augK_add, augK_sub, xS_augS, agR_some, agD_eq, agX_eq, agI_eq, agO_eq, idxM_loc, augD_add, augD_sub, xS_expr, xS_ret, xS_retN, xS_ite, brS_t, brS_f, xS_wh, whB_t, whB_f, whK_n, whK_c, whK_b, whK_r, xS_fo, foT_some, foK_n, foK_c, foK_b, foK_r, xS_brk, xS_cont, xS_pass, xSs_nil, xSs_cons, sqK_n, sqK_r, sqK_b, sqK_c,
  b_add, b_sub, b_mul, b_mulL, b_mulR, b_fdiv, b_mod, b_pow, b_addT, b_addL, addL_ok, b_repT, k_lt, k_le, k_gt, k_ge, k_eq, k_ne, k_isN, k_notN, k_in, k_nin, tr_str, q_int, q_bl, q_str, ofB_some, Option.map_some, tr_bl, tr_int, tr_non, tr_tup, tr_loc, trK_ok, td_bl, td_int, td_tup, i_tup, i_rls, i_loc, idxL_ok, okV_some, at0, at1, at2, at3, at_m1, tupK_ok, lstK_ok, negK_int, p_abs, p_int, p_intB, p_lenT, p_lenR, p_lenL, lenL_ok, p_max, p_min, p_tupT, p_tupL, tupL_ok, p_lstT, p_lstL, lstL_ok, isD_ok, m_app, appL_ok, m_pop, popL_ok, m_rev, revL_ok, recv_ok, recvL_ok, set_loc, setL_ok, setI_ok, new_eq, Bool.not_true, Bool.not_false, if_true, eq_self, decide_true, decide_false,
  List.set_cons_zero, List.set_cons_succ, List.getElem?_cons_zero, List.getElem?_cons_succ, List.length_cons, List.length_nil, Option.some.injEq, List.cons_append, List.nil_append, List.append_assoc, Nat.reduceAdd, st_get, st_get0, st_set, st_set0, List.length_append, Nat.add_zero, Nat.zero_add, *])

/-! ### the law -/
def lawI : Ss := .cons (.asg (.nm 7) (.call 28 (.cons (.var 6) (.cons (.var 4) .nil)))) (.cons (.ite (.or (.cons (.cmp .eq (.call 45 (.cons (.var 6) (.cons (.var 4) .nil))) (.cstr (PySem.Str.ofString ""))) (.cons (.not (.isin .tuple (.var 7))) (.cons (.cmp .eq (.var 7) (.tup .nil)) (.cons (.not (.call 36 (.cons (.idx (.var 7) (.cint 0)) (.cons (.cstr (PySem.Str.ofString "needless")) .nil)))) .nil))))) (.cons (.ret (.cbl false)) .nil) .nil) .nil)
def lb0 : SX.St := .par [3, 4] (.cons (.call 43 (.cons (.var 1) (.cons (.lst (.cons (.cstr (PySem.Str.ofString "guess")) (.cons (.cstr (PySem.Str.ofString "guess")) (.cons (.cstr (PySem.Str.ofString "proof")) (.cons (.cstr (PySem.Str.ofString "told")) .nil))))) (.cons (.lst (.cons (.cint 0) (.cons (.cint 0) (.cons (.cint 5) .nil)))) .nil)))) (.cons (.call 47 (.cons (.var 1) .nil)) .nil))
def lb1 : SX.St := .ite (.cmp .eq (.call 34 (.cons (.var 1) (.cons (.cint 2) .nil))) (.cint 0)) (.cons (.asg (.nm 3) (.bin .add (.tup (.cons (.idx (.var 3) (.cint 0)) (.cons (.call 35 (.cons (.var 1) (.cons (.lst (.cons (.tup (.cons (.cint 4) (.cons (.cint 3) .nil))) (.cons (.tup (.cons (.cint 7) (.cons (.cint 5) .nil))) (.cons (.tup (.cons (.cint 10) (.cons (.cint 9) .nil))) (.cons (.tup (.cons (.cint 31) (.cons (.cint 10) .nil))) (.cons (.tup (.cons (.cint 101) (.cons (.cint 100) .nil))) (.cons (.tup (.cons (.cint 26) (.cons (.cint 3) .nil))) .nil))))))) .nil))) .nil))) (.slc (.var 3) (.cint 2) (.absent)))) .nil) .nil
def lb2 : SX.St := .ite (.and (.cons (.cmp .eq (.call 34 (.cons (.var 1) (.cons (.cint 4) .nil))) (.cint 0)) (.cons (.cmp .le (.bin .add (.idx (.var 4) (.cint 1)) (.idx (.var 4) (.cint 3))) (.cint 1000)) .nil))) (.cons (.asg (.nm 3) (.call 46 (.cons (.var 3) (.cons (.var 4) .nil)))) .nil) .nil
def lb3 : SX.St := .asg (.nm 5) (.call 49 (.cons (.var 3) (.cons (.var 4) .nil)))
def lb4 : SX.St := .ite (.not (.call 36 (.cons (.tup (.cons (.call 32 (.cons (.var 3) (.cons (.var 4) .nil))) (.cons (.callk 32 .nil (.cons (.var 4) (.cons (.var 3) .nil)) [1, 0]) .nil))) (.cons (.tup (.cons (.var 5) (.cons (.var 5) .nil))) .nil)))) (.cons (.ret (.cbl false)) .nil) .nil
def lb6 : SX.St := .ite (.and (.cons (.cmp .eq (.call 45 (.cons (.var 3) (.cons (.var 4) .nil))) (.cstr (PySem.Str.ofString ""))) (.cons (.not (.call 36 (.cons (.var 5) (.cons (.var 3) .nil)))) .nil))) (.cons (.ret (.cbl false)) .nil) .nil
def lb50 : SX.St := .ite (.or (.cons (.cmp .ne (.call 45 (.cons (.var 5) (.cons (.var 4) .nil))) (.cstr (PySem.Str.ofString ""))) (.cons (.not (.call 36 (.cons (.tup (.cons (.call 28 (.cons (.var 5) (.cons (.var 4) .nil))) (.cons (.callk 28 .nil (.cons (.var 4) (.cons (.var 5) .nil)) [1, 0]) .nil))) (.cons (.tup (.cons (.tup (.cons (.cstr (PySem.Str.ofString "sure")) .nil)) (.cons (.tup (.cons (.cstr (PySem.Str.ofString "sure")) .nil)) .nil))) .nil)))) .nil))) (.cons (.ret (.cbl false)) .nil) .nil
def lb51 : SX.St := .fo (.nm 6) (.seq (.call 50 (.cons (.var 3) (.cons (.var 5) .nil)))) lawI
def lb5 : SX.St := .ite (.cmp .notN (.var 5) (.cnon)) (.cons (lb50) (.cons (lb51) .nil)) .nil
def lawB : Ss := .cons lb0 (.cons lb1 (.cons lb2 (.cons lb3 (.cons lb4 (.cons lb5 (.cons lb6 .nil))))))
theorem law_eq : b_law = .cons (.asg (.nm 1) (.call 33 (.cons (.var 0) .nil))) (.cons (.fo (.nm 2) (.range1 (.cint 6)) lawB) (.cons (.ret (.cbl true)) .nil)) := rfl
theorem plains_rds : ∀ rs : List Rd, plains (rs.map rdD) = true
  | [] => rfl
  | r :: rs => by
    rw [List.map_cons, plains, plains_rds rs]
    rfl
theorem depDs_rds : ∀ rs : List Rd, depDs (rs.map rdD) ≤ 1
  | [] => by rw [List.map_nil, depDs]; omega
  | r :: rs => by
    have := depDs_rds rs
    have h2 : depD (rdD r) = 1 := rfl
    rw [List.map_cons, depDs]
    omega
theorem pm2 (x y : D) : permD [1, 0] ([] ++ [x, y]) = [y, x] := rfl
theorem strOk_n : PyData.strOk (PySem.Str.ofString "needless") = true := by decide +kernel
theorem eq_nil1 (S : Store) : eqD (.tup [.str (PySem.Str.ofString "sure")]) (.tup []) S = some false := by
  unfold eqD
  have h : scalD (.tup [.str (PySem.Str.ofString "sure")]) (.tup []) = none := rfl
  rw [h]
  have e1 : pyT (.tup [.str (PySem.Str.ofString "sure")]) S = some (.tuple [.str (PySem.Str.ofString "sure")]) := rfl
  have e2 : pyT (.tup []) S = some (.tuple []) := rfl
  dsimp only
  rw [e1, e2]
  dsimp only
  rw [if_pos ⟨by decide +kernel, by decide +kernel⟩]
  rfl
theorem eq_nil2 {w : Str} {xs : List D} (hx : PlX xs) (hw : PyData.strOk w = true) (S : Store) : eqD (.tup (.str (PySem.Str.ofString "needless") :: .str w :: xs)) (.tup []) S = some false := by
  unfold eqD
  have h : scalD (.tup (.str (PySem.Str.ofString "needless") :: .str w :: xs)) (.tup []) = none := rfl
  obtain ⟨ys, y1, y2, y3⟩ := pys_of xs hx.ns
  have y4 := hx.dp
  have e1 : pyT (.tup (.str (PySem.Str.ofString "needless") :: .str w :: xs)) S = some (.tuple (.str (PySem.Str.ofString "needless") :: .str w :: ys)) := by
    show (pyDs (.str (PySem.Str.ofString "needless") :: .str w :: xs)).map PyData.tuple = _
    have : pyDs (.str (PySem.Str.ofString "needless") :: .str w :: xs) = some (.str (PySem.Str.ofString "needless") :: .str w :: ys) := by
      unfold pyDs
      unfold pyDs
      rw [y1]
      rfl
    rw [this]
    rfl
  have e2 : pyT (.tup []) S = some (.tuple []) := rfl
  rw [h]
  dsimp only
  rw [e1, e2]
  dsimp only
  have s1 : SeqAt.shaped (.tuple (.str (PySem.Str.ofString "needless") :: .str w :: ys)) = true := by
    unfold SeqAt.shaped
    have h3 : PyData.canLay0 (.tuple (.str (PySem.Str.ofString "needless") :: .str w :: ys)) = true := by
      simp only [PyData.canLay0, PyData.canLayAll0, y2, hw, strOk_n, Bool.and_self]
    have h4 : PyData.depth (.tuple (.str (PySem.Str.ofString "needless") :: .str w :: ys)) ≤ 64 := by
      simp only [PyData.depth, PyData.depthAll]
      omega
    rw [h3, decide_eq_true h4]
    rfl
  rw [if_pos ⟨s1, by decide +kernel⟩]
  simp only [PyData.eqv, PyData.eqvAll]
theorem fault_ok (b : Bk) (r : Rd) : PyData.strOk (faultF b r) = true := by
  rcases fault_cases b r with c | c | ⟨c, -⟩ | c | c <;> rw [c] <;> decide +kernel

theorem same_ob (n : Nat) (o : Option Bk) (S : Store) : callN P (n + 6) 36 [.tup [obD o, obD o], .tup [obD o, obD o]] S = .ok (.bl true) S := by
  cases o with
  | none => exact sa36 5 n (.tup [.non, .non]) S rfl (by decide)
  | some b => exact sa36 5 n (.tup [bkD b, bkD b]) S rfl (by show 3 ≤ 5; decide)
theorem same_bk (n : Nat) (b : Bk) (S : Store) : callN P (n + 6) 36 [bkD b, bkD b] S = .ok (.bl true) S := sa36 5 n (bkD b) S rfl (by show 2 ≤ 5; decide)
theorem same_su (n : Nat) (S : Store) : callN P (n + 6) 36 [.tup [.tup [.str (PySem.Str.ofString "sure")], .tup [.str (PySem.Str.ofString "sure")]], .tup [.tup [.str (PySem.Str.ofString "sure")], .tup [.str (PySem.Str.ofString "sure")]]] S = .ok (.bl true) S := sa36 5 n _ S rfl (by decide)
theorem same_nl (n : Nat) (S : Store) : callN P (n + 1) 36 [.str (PySem.Str.ofString "needless"), .str (PySem.Str.ofString "needless")] S = .ok (.bl true) S := sa36 0 n (.str (PySem.Str.ofString "needless")) S rfl (Nat.le_refl _)
theorem step1 (b : Bk) (r : Rd) (hb : B5 b) (l : Nat) (Sb G : Store) (hB : Bag Sb l) (o0 o2 o5 o6 o7 : Option D) :
    ∃ b' Sb' G', exS (callN P 27) lb1 [o0, some (.loc l), o2, some (bkD b), some (rdD r), o5, o6, o7] (Sb ++ G) = .ok (.next, [o0, some (.loc l), o2, some (bkD b'), some (rdD r), o5, o6, o7]) (Sb' ++ G') ∧ B5 b' ∧ Bag Sb' l := by
  obtain ⟨d1, Sb1, e1, a1, b1, B1, n1⟩ := draw_is dr34 27 (by omega) l 2 Sb G hB (by decide) (by decide)
  by_cases c : d1 = 0
  · obtain ⟨d, Sb2, e2, a2, B2, n2⟩ := pick_x pk35 27 (by omega) l [frD (4, 3), frD (7, 5), frD (10, 9), frD (31, 10), frD (101, 100), frD (26, 3)] Sb1 G B1 (by simp) (by simp)
    obtain ⟨t, rfl, t1, t2, t3⟩ : ∃ t : Fr, d = frD t ∧ Ti t ∧ 0 < t.1 ∧ t.2 ≤ t.1 := by
      simp only [List.mem_cons, List.not_mem_nil, or_false] at a2
      rcases a2 with rfl | rfl | rfl | rfl | rfl | rfl <;> exact ⟨_, rfl, ti_lit (by decide) (by decide) (by decide), by decide, by decide⟩
    refine ⟨{ b with th := t }, Sb2, G ++ [.lst [frD (4, 3), frD (7, 5), frD (10, 9), frD (31, 10), frD (101, 100), frD (26, 3)]], ?_, ⟨⟨hb.k, t1, t2, hb.gr, hb.fi, hb.ga, hb.st, hb.mo, hb.wa⟩, hb.gr2, hb.fi2, hb.k2, t3⟩, B2⟩
    have d : (decide (d1 = 0)) = true := decide_eq_true c
    generalize Sb2 ++ (G ++ [SO.lst [frD (4, 3), frD (7, 5), frD (10, 9), frD (31, 10), frD (101, 100), frD (26, 3)]]) = S2 at e2 ⊢
    generalize Sb ++ G = S0 at e1 ⊢
    generalize Sb1 ++ G = S1 at e1 e2 ⊢
    have e2' : callN P 27 35 [.loc l, .loc S1.length] (S1 ++ [SO.lst [.tup [.int 4, .int 3], .tup [.int 7, .int 5], .tup [.int 10, .int 9], .tup [.int 31, .int 10], .tup [.int 101, .int 100], .tup [.int 26, .int 3]]]) = .ok (frD t) S2 := e2
    have sl : ∀ S, evE (callN P 27) (.slc (.var 3) (.cint 2) .absent) [o0, some (.loc l), o2, some (bkD b), some (rdD r), o5, o6, o7] S = .ok (.tup [.int b.gr, .int b.fi, .int b.db, .int b.ga, .int b.st, .int b.le, .int b.mo, frD b.cu, .int b.fa, .str b.ru, .int b.wa]) S := fun S => rfl
    have ad : ∀ S, binD .add (.tup [.int b.k, frD t]) (.tup [.int b.gr, .int b.fi, .int b.db, .int b.ga, .int b.st, .int b.le, .int b.mo, frD b.cu, .int b.fa, .str b.ru, .int b.wa]) S = .ok (bkD { b with th := t }) S := fun S => rfl
    unfold lb1
    generalize bkD { b with th := t } = bT at *
    clear e2 c a1 b1 a2 t1 t2 t3 B1 B2 n1 n2 hB hb
    walk_at "ev*"
  · refine ⟨b, Sb1, G, ?_, hb, B1⟩
    have d : (decide (d1 = 0)) = false := decide_eq_false c
    unfold lb1
    clear c a1 b1 B1 n1 hB hb
    walk_at "ev*"
theorem step2 (b : Bk) (r : Rd) (hb : B5 b) (hr : RdOk r) (l : Nat) (Sb G : Store) (hB : Bag Sb l) (o0 o2 o5 o6 o7 : Option D) :
    ∃ b' Sb' G', exS (callN P 27) lb2 [o0, some (.loc l), o2, some (bkD b), some (rdD r), o5, o6, o7] (Sb ++ G) = .ok (.next, [o0, some (.loc l), o2, some (bkD b'), some (rdD r), o5, o6, o7]) (Sb' ++ G') ∧ B5 b' ∧ Bag Sb' l := by
  obtain ⟨d1, Sb1, e1, a1, b1, B1, n1⟩ := draw_is dr34 27 (by omega) l 4 Sb G hB (by decide) (by decide)
  have h3 := hr.hi; have h4 := hr.high
  by_cases c : d1 = 0
  · have d : (decide (d1 = 0)) = true := decide_eq_true c
    by_cases c2 : r.hi + r.high ≤ 1000
    · obtain ⟨b', e2, hb'⟩ := e_made 26 b r (Sb1 ++ G) hb hr c2
      refine ⟨b', Sb1, G, ?_, hb', B1⟩
      have d2 : (decide (r.hi + r.high ≤ 1000)) = true := decide_eq_true c2
      unfold lb2
      generalize bkD b' = bT at *
      clear c c2 a1 b1 B1 n1 hB hb hr hb'
      walk_at "ev*"
    · refine ⟨b, Sb1, G, ?_, hb, B1⟩
      have d2 : (decide (r.hi + r.high ≤ 1000)) = false := decide_eq_false c2
      unfold lb2
      clear c c2 a1 b1 B1 n1 hB hb hr
      walk_at "ev*"
  · refine ⟨b, Sb1, G, ?_, hb, B1⟩
    have d : (decide (d1 = 0)) = false := decide_eq_false c
    unfold lb2
    clear c a1 b1 B1 n1 hB hb hr
    walk_at "ev*"
theorem turnI (q : Bk) (r : Rd) (hq : BkOk q) (hr : RdOk r) (hm : 1 ≤ q.mo) (hf : faultF q r ≠ PySem.Str.ofString "") (S : Store) (o0 o1 o2 o3 o5 o7 : Option D) :
    ∃ o7', exSs (callN P 27) lawI [o0, o1, o2, o3, some (rdD r), o5, some (bkD q), o7] S = .ok (.next, [o0, o1, o2, o3, some (rdD r), o5, some (bkD q), o7']) S := by
  obtain ⟨xs, hxs, h⟩ := (su28 18 q r S hq hr).2 hf
  have x2 : callN P 27 45 [bkD q, rdD r] S = .ok (.str (faultF q r)) S := lfa45 23 q r S hq hr hm
  have x3 : callN P 27 28 [bkD q, rdD r] S = .ok (.tup (.str (PySem.Str.ofString "needless") :: .str (faultF q r) :: xs)) S := h
  have d : (decide (faultF q r = PySem.Str.ofString "")) = false := decide_eq_false hf
  have eq : eqD (.tup (.str (PySem.Str.ofString "needless") :: .str (faultF q r) :: xs)) (.tup []) S = some false := eq_nil2 hxs (fault_ok q r) S
  have ist : isK .tuple (kdD (.tup (.str (PySem.Str.ofString "needless") :: .str (faultF q r) :: xs))) = true := rfl
  have ix : atI (D.str (PySem.Str.ofString "needless") :: .str (faultF q r) :: xs) 0 = some (.str (PySem.Str.ofString "needless")) := at0 _ _
  have sm : callN P 27 36 [.str (PySem.Str.ofString "needless"), .str (PySem.Str.ofString "needless")] S = .ok (.bl true) S := same_nl 26 S
  refine ⟨some (.tup (.str (PySem.Str.ofString "needless") :: .str (faultF q r) :: xs)), ?_⟩
  unfold lawI
  generalize faultF q r = ft at *
  clear h hf hxs hm hq hr
  walk_at "ev*"
def Inv (l : Nat) (e : SX.Env) (s : Store) : Prop := ∃ o0 o2 o3 o4 o5 o6 o7 Sb G, e = [o0, some (.loc l), o2, o3, o4, o5, o6, o7] ∧ s = Sb ++ G ∧ Bag Sb l
theorem loopI (b m : Bk) (r : Rd) (os : List Bk) (hr : RdOk r) (S G : Store) (hq : ∀ q ∈ os, BkOk q ∧ faultF q r ≠ PySem.Str.ofString "") (o0 o1 o2 o5 : Option D) :
    ∀ (pre post : List Bk), pre ++ post = os → ∀ (o6 o7 : Option D), ∃ o6' o7', foS (callN P 27) (.nm 6) lawI ⟨os.map bkD, some S.length⟩ (post.map bkD) [o0, o1, o2, some (bkD b), some (rdD r), o5, o6, o7] (S ++ (.lst (os.map bkD) :: G)) = .ok (.next, [o0, o1, o2, some (bkD b), some (rdD r), o5, o6', o7']) (S ++ (.lst (os.map bkD) :: G)) := by
  have hx : (⟨os.map bkD, some S.length⟩ : Walk).here (S ++ (.lst (os.map bkD) :: G)) := here_some _ (st0 S G (os.map bkD))
  intro pre post
  induction post generalizing pre with
  | nil =>
    intro h o6 o7
    exact ⟨o6, o7, fo_nil _ _ _ _ _ _ hx⟩
  | cons q post ih =>
    intro h o6 o7
    have hm : q ∈ os := by rw [← h]; simp
    obtain ⟨h1, h2⟩ := hq q hm
    obtain ⟨o7', e1⟩ := turnI q r h1 hr (by have := h1.mo; have := h1.st; omega) h2 (S ++ (.lst (os.map bkD) :: G)) o0 o1 o2 (some (bkD b)) o5 o7
    obtain ⟨p6, p7, e2⟩ := ih (pre ++ [q]) (by rw [List.append_assoc]; exact h) (some (bkD q)) o7'
    refine ⟨p6, p7, ?_⟩
    rw [List.map_cons, fo_cons _ _ _ _ _ _ _ _ hx, asgT_nm, foT_some]
    simp only [List.set_cons_zero, List.set_cons_succ]
    rw [e1, bnd_ok, foK_n, e2]
theorem step5 (b : Bk) (r : Rd) (hb : BkOk b) (hr : RdOk r) (hm : 1 ≤ b.mo) (S : Store) (o0 o1 o2 o6 o7 : Option D) :
    ∃ o6' o7' G', exS (callN P 27) lb5 [o0, o1, o2, some (bkD b), some (rdD r), some (obD (mendF b r)), o6, o7] S = .ok (.next, [o0, o1, o2, some (bkD b), some (rdD r), some (obD (mendF b r)), o6', o7']) (S ++ G') := by
  cases h : mendF b r with
  | none =>
    refine ⟨o6, o7, [], ?_⟩
    rw [List.append_nil]
    show exS (callN P 27) lb5 [o0, o1, o2, some (bkD b), some (rdD r), some .non, o6, o7] S = _
    have isn : isNonD .non = true := rfl
    unfold lb5 obD
    clear h
    walk_at "ev*"
  | some m =>
    have hmr := mend_r hb h
    obtain ⟨g1, g2, g3⟩ := hmr.good hb
    obtain ⟨os, G, e1, hos⟩ := e_less 26 b m r hb hmr S
    obtain ⟨p6, p7, e2⟩ := loopI b m r os hr S G hos o0 o1 o2 (some (bkD m)) [] os rfl o6 o7
    refine ⟨p6, p7, .lst (os.map bkD) :: G, ?_⟩
    show exS (callN P 27) lb5 [o0, o1, o2, some (bkD b), some (rdD r), some (bkD m), o6, o7] S = _
    have x1 : callN P 27 45 [bkD m, rdD r] S = .ok (.str (faultF m r)) S := lfa45 23 m r S g1 hr (by rw [g2]; exact hm)
    have x2 : callN P 27 28 [bkD m, rdD r] S = .ok (.tup [.str (PySem.Str.ofString "sure")]) S := (su28 18 m r S g1 hr).1 g3
    rw [g3] at x1
    have sm := same_su 21 S
    have isn : isNonD (bkD m) = false := rfl
    have pp := pm2
    have d : (decide (PySem.Str.ofString "" = PySem.Str.ofString "")) = true := by simp
    unfold obD
    unfold lb5
    rw [xS_ite]
    have c : truR (evE (callN P 27) (.cmp .notN (.var 5) .cnon) [o0, o1, o2, some (bkD b), some (rdD r), some (bkD m), o6, o7] S) = .ok true S := by
      clear e1 e2 x1 x2 sm pp d
      walk_at "ev*"
    rw [c, bnd_ok, brS_t]
    clear c
    refine seq_eq [o0, o1, o2, some (bkD b), some (rdD r), some (bkD m), o6, o7] S (by
      clear e1 e2 isn
      unfold lb50
      walk_at "ev*") ?_
    refine seq_eq [o0, o1, o2, some (bkD b), some (rdD r), some (bkD m), p6, p7] (S ++ (.lst (os.map bkD) :: G)) (by
      unfold lb51
      rw [xS_fo]
      have i0 : evIt (callN P 27) (.seq (.call 50 (.cons (.var 3) (.cons (.var 5) .nil)))) [o0, o1, o2, some (bkD b), some (rdD r), some (bkD m), o6, o7] S = .ok ⟨os.map bkD, some S.length⟩ (S ++ (.lst (os.map bkD) :: G)) := by
        have h0 := st0 S G (os.map bkD)
        clear e2 x1 x2 sm pp d isn
        walk_at "ev*"
      rw [i0, bnd_ok]
      exact e2) ?_
    rw [xSs_nil]
theorem turn (l : Nat) (lap : Int) (Sb G0 : Store) (hB : Bag Sb l) (o0 o3 o4 o5 o6 o7 : Option D) :
    ∃ e s, exSs (callN P 27) lawB [o0, some (.loc l), some (.int lap), o3, o4, o5, o6, o7] (Sb ++ G0) = .ok (.next, e) s ∧ Inv l e s := by
  have L0 : LINE = 16777216 := rfl
  obtain ⟨R, hR⟩ : ∃ R : List Str, R = [PySem.Str.ofString "guess", PySem.Str.ofString "guess", PySem.Str.ofString "proof", PySem.Str.ofString "told"] := ⟨_, rfl⟩
  have g1 : (Sb ++ (G0 ++ [SO.lst (R.map .str), SO.lst ([0, 0, 5].map D.int)]))[(Sb ++ G0).length]? = some (.lst (R.map .str)) := by
    rw [← List.append_assoc, st_get0]; rfl
  have g2 : (Sb ++ (G0 ++ [SO.lst (R.map .str), SO.lst ([0, 0, 5].map D.int)]))[(Sb ++ G0).length + 1]? = some (.lst ([0, 0, 5].map D.int)) := by
    rw [← List.append_assoc, st_get]; rfl
  obtain ⟨b, Sb1, X1, e1, hb, B1, n1⟩ := e_book 26 (by omega) Sb (G0 ++ [SO.lst (R.map .str), SO.lst ([0, 0, 5].map D.int)]) l (Sb ++ G0).length ((Sb ++ G0).length + 1) R [0, 0, 5] hB g1 g2 (by rw [List.length_append]; omega) (by rw [List.length_append]; omega) (by rw [hR]; simp) (by simp) (by rw [hR]; simp) (by simp) (by simp)
  have e1' : callN P 27 43 [.loc l, .loc (Sb ++ G0).length, .loc ((Sb ++ G0).length + 1)] (Sb ++ G0 ++ [SO.lst [.str (PySem.Str.ofString "guess"), .str (PySem.Str.ofString "guess"), .str (PySem.Str.ofString "proof"), .str (PySem.Str.ofString "told")], SO.lst [.int 0, .int 0, .int 5]]) = .ok (bkD b) (Sb1 ++ (G0 ++ [SO.lst (R.map .str), SO.lst ([0, 0, 5].map D.int)] ++ X1)) := by
    rw [List.append_assoc]
    rw [hR] at e1 ⊢
    exact e1
  generalize (G0 ++ [SO.lst (R.map .str), SO.lst ([0, 0, 5].map D.int)] ++ X1) = G1 at e1'
  clear e1 g1 g2 hR R
  obtain ⟨r, Sb2, X2, e2, hr, B2, n2⟩ := e_some 26 (by omega) Sb1 G1 l B1
  have hb0 : B5 b := ⟨hb.toBkOk, by have := hb.gr2; omega, by have := hb.fi2; omega, hb.k2, hb.th3⟩
  have s0 : exS (callN P 27) lb0 [o0, some (.loc l), some (.int lap), o3, o4, o5, o6, o7] (Sb ++ G0) = .ok (.next, [o0, some (.loc l), some (.int lap), some (bkD b), some (rdD r), o5, o6, o7]) (Sb2 ++ (G1 ++ X2)) := by
    unfold lb0
    clear n1 n2 B1 B2 hB hb hr hb0
    generalize Sb2 ++ (G1 ++ X2) = S2 at *
    generalize Sb1 ++ G1 = S1 at *
    generalize Sb ++ G0 = S0 at *
    walk_at "evs"
  obtain ⟨b2, Sb3, G3, s1, hb2, B3⟩ := step1 b r hb0 l Sb2 (G1 ++ X2) B2 o0 (some (.int lap)) o5 o6 o7
  obtain ⟨b3, Sb4, G4, s2, hb3, B4⟩ := step2 b2 r hb2 hr l Sb3 G3 B3 o0 (some (.int lap)) o5 o6 o7
  have hm : 1 ≤ b3.mo := by have := hb3.mo; have := hb3.st; omega
  have x3 : callN P 27 49 [bkD b3, rdD r] (Sb4 ++ G4) = .ok (obD (mendF b3 r)) (Sb4 ++ G4) := e_lmend 21 b3 r _ hb3.toBkOk hr hb3.th3
  have s3 : exS (callN P 27) lb3 [o0, some (.loc l), some (.int lap), some (bkD b3), some (rdD r), o5, o6, o7] (Sb4 ++ G4) = .ok (.next, [o0, some (.loc l), some (.int lap), some (bkD b3), some (rdD r), some (obD (mendF b3 r)), o6, o7]) (Sb4 ++ G4) := by
    unfold lb3
    generalize Sb4 ++ G4 = S4 at *
    clear s0 s1 s2 e1' e2
    walk_at "ev*"
  have x4 : callN P 27 32 [bkD b3, rdD r] (Sb4 ++ G4) = .ok (obD (mendF b3 r)) (Sb4 ++ G4) := me32 19 b3 r _ hb3.toBkOk hr
  have s4 : exS (callN P 27) lb4 [o0, some (.loc l), some (.int lap), some (bkD b3), some (rdD r), some (obD (mendF b3 r)), o6, o7] (Sb4 ++ G4) = .ok (.next, [o0, some (.loc l), some (.int lap), some (bkD b3), some (rdD r), some (obD (mendF b3 r)), o6, o7]) (Sb4 ++ G4) := by
    have sm := same_ob 21 (mendF b3 r) (Sb4 ++ G4)
    have pp := pm2
    unfold lb4
    generalize Sb4 ++ G4 = S4 at *
    generalize obD (mendF b3 r) = due at *
    clear s0 s1 s2 s3 e1' e2 x3
    walk_at "ev*"
  obtain ⟨p6, p7, G5, s5⟩ := step5 b3 r hb3.toBkOk hr hm (Sb4 ++ G4) o0 (some (.loc l)) (some (.int lap)) o6 o7
  have x6 : callN P 27 45 [bkD b3, rdD r] (Sb4 ++ G4 ++ G5) = .ok (.str (faultF b3 r)) (Sb4 ++ G4 ++ G5) := lfa45 23 b3 r _ hb3.toBkOk hr hm
  have s6 : exS (callN P 27) lb6 [o0, some (.loc l), some (.int lap), some (bkD b3), some (rdD r), some (obD (mendF b3 r)), p6, p7] (Sb4 ++ G4 ++ G5) = .ok (.next, [o0, some (.loc l), some (.int lap), some (bkD b3), some (rdD r), some (obD (mendF b3 r)), p6, p7]) (Sb4 ++ G4 ++ G5) := by
    unfold lb6
    by_cases c : faultF b3 r = PySem.Str.ofString ""
    · have h : mendF b3 r = some b3 := mend_self hb3.toBkOk hb3.gr2 hb3.fi2 hb3.k2 c
      have sm := same_bk 21 b3 (Sb4 ++ G4 ++ G5)
      have d : (decide (faultF b3 r = PySem.Str.ofString "")) = true := decide_eq_true c
      rw [h]
      unfold obD
      generalize Sb4 ++ G4 ++ G5 = S5 at *
      generalize faultF b3 r = ft at *
      clear s0 s1 s2 s3 s4 s5 e1' e2 x3 x4 h c
      walk_at "ev*"
    · have d : (decide (faultF b3 r = PySem.Str.ofString "")) = false := decide_eq_false c
      generalize Sb4 ++ G4 ++ G5 = S5 at *
      generalize faultF b3 r = ft at *
      generalize obD (mendF b3 r) = due at *
      clear s0 s1 s2 s3 s4 s5 e1' e2 x3 x4 c
      walk_at "ev*"
  refine ⟨[o0, some (.loc l), some (.int lap), some (bkD b3), some (rdD r), some (obD (mendF b3 r)), p6, p7], Sb4 ++ G4 ++ G5, ?_, o0, some (.int lap), some (bkD b3), some (rdD r), some (obD (mendF b3 r)), p6, p7, Sb4, G4 ++ G5, rfl, List.append_assoc .., B4⟩
  unfold lawB
  rw [xSs_cons, s0, bnd_ok, sqK_n, xSs_cons, s1, bnd_ok, sqK_n, xSs_cons, s2, bnd_ok, sqK_n, xSs_cons, s3, bnd_ok, sqK_n, xSs_cons, s4, bnd_ok, sqK_n, xSs_cons, s5, bnd_ok, sqK_n, xSs_cons, s6, bnd_ok, sqK_n, xSs_nil]
theorem main_of (d0 : D) (S0 : Store) (l : Nat) (Sb : Store) (e : callN P 27 33 [d0] S0 = .ok (.loc l) Sb) (hB : Bag Sb l) : ∃ S', SX.callN P 28 51 [d0] S0 = .ok (.bl true) S' := by
  rw [callN_eq 27 _ _ (fd := ⟨1, 8, b_law, false⟩) rfl rfl (Nat.le_of_ble_eq_true rfl)]
  suffices H : ∃ S' env, exSs (callN P 27) b_law [some d0, none, none, none, none, none, none, none] S0 = .ok (.ret (.bl true), env) S' by
    obtain ⟨S', env, h⟩ := H
    exact ⟨S', end_any h rfl⟩
  rw [law_eq]
  refine seq_ex (Q := fun r => ∃ S' env, r = .ok (.ret (.bl true), env) S') [some d0, some (.loc l), none, none, none, none, none, none] Sb (by walk_at "ev*") ?_
  obtain ⟨e2, s2, a, o0, o2, o3, o4, o5, o6, o7, Sb2, G2, rfl, rfl, B2⟩ := fo_inv (callN P 27) (.nm 2) lawB ⟨rngK 0 6, none⟩ (Inv l) (fun e s _ => here_none s _) (rngK 0 6) (fun d hd e s ⟨o0, o2, o3, o4, o5, o6, o7, Sb, G, he, hs, hB⟩ => by
    obtain ⟨lap, rfl, -, -⟩ := rng_mem hd
    subst he
    subst hs
    obtain ⟨e2, s2, h1, h2⟩ := turn l lap Sb G hB o0 o3 o4 o5 o6 o7
    exact ⟨_, e2, s2, rfl, h1, h2⟩) [some d0, some (.loc l), none, none, none, none, none, none] Sb ⟨_, _, _, _, _, _, _, Sb, [], rfl, (List.append_nil _).symm, hB⟩
  have r3 : R62 6 := ⟨by decide, by decide⟩
  refine seq_ex (Q := fun r => ∃ S' env, r = .ok (.ret (.bl true), env) S') [o0, some (.loc l), o2, o3, o4, o5, o6, o7] (Sb2 ++ G2) (by walk_at "ev*") ?_
  exact ⟨Sb2 ++ G2, [o0, some (.loc l), o2, o3, o4, o5, o6, o7], by walk_at "ev"⟩
theorem main (ns : List Int) (hn : ns.length ≤ 63) : (∃ S', SX.callN (prg T) LV i_law [.rls (ns.map .int)] [] = .ok (.bl true) S') ∧ ∃ S', SX.callN (prg T) LV i_law [.loc 0] [.lst (ns.map .int)] = .ok (.bl true) S' := by
  refine ⟨?_, ?_⟩
  · obtain ⟨Sb, l, e, hB⟩ := e_bag (P := P) (f := 33) rfl 26 ns (by omega)
    exact main_of _ _ l Sb e hB
  · obtain ⟨Sb, l, e, hB⟩ := e_bagL (P := P) (f := 33) rfl 26 ns (by omega)
    exact main_of _ _ l Sb e hB
end
end LW
namespace LW
open PySem PySem.Spec PyProof.Rows L2 SX
set_option maxHeartbeats 0 in
theorem all_mk {l : PySem.W.OpenLaw} {w : World} {K : PySem.W.Frag} {h : Heap} {mg : Str → Option Value} {fa : Addr} (X : K.In h) (G : h.Ns mainGlobals mg) (hfa : mg "law" = some (.ref fa)) (hTab : GX.TabsAt l.prog mg h)
    {f0 : Addr} {cd0 : Value} {oc0 kV0 dc0 pm0 ct0 : Value} {od0 an0 : Option Addr} {sl0 : Array (Option Value)} (a0 : PySem.W.nsIn K mainGlobals "divisor" = some (some (.ref f0))) (l0 : K.lookup f0 = some ⟨oc0, od0, .func (PySem.W.fnOf "divisor" "divisor" (defArgs (topS 1)) (defBody (topS 1)) (defScope (topS 1)) .none kV0 dc0 pm0 an0 cd0 ct0), sl0⟩) (k0 : PySem.W.keepIn K (.ref f0) = true)
    (cc0 : PySem.W.codeIn K cd0 "divisor" = true)
    {f1 : Addr} {cd1 : Value} {oc1 kV1 dc1 pm1 ct1 : Value} {od1 an1 : Option Addr} {sl1 : Array (Option Value)} (a1 : PySem.W.nsIn K mainGlobals "lowest" = some (some (.ref f1))) (l1 : K.lookup f1 = some ⟨oc1, od1, .func (PySem.W.fnOf "lowest" "lowest" (defArgs (topS 3)) (defBody (topS 3)) (defScope (topS 3)) .none kV1 dc1 pm1 an1 cd1 ct1), sl1⟩) (k1 : PySem.W.keepIn K (.ref f1) = true)
    (cc1 : PySem.W.codeIn K cd1 "lowest" = true)
    {f2 : Addr} {cd2 : Value} {oc2 kV2 dc2 pm2 ct2 : Value} {od2 an2 : Option Addr} {sl2 : Array (Option Value)} (a2 : PySem.W.nsIn K mainGlobals "plus" = some (some (.ref f2))) (l2 : K.lookup f2 = some ⟨oc2, od2, .func (PySem.W.fnOf "plus" "plus" (defArgs (topS 4)) (defBody (topS 4)) (defScope (topS 4)) .none kV2 dc2 pm2 an2 cd2 ct2), sl2⟩) (k2 : PySem.W.keepIn K (.ref f2) = true)
    (cc2 : PySem.W.codeIn K cd2 "plus" = true)
    {f3 : Addr} {cd3 : Value} {oc3 kV3 dc3 pm3 ct3 : Value} {od3 an3 : Option Addr} {sl3 : Array (Option Value)} (a3 : PySem.W.nsIn K mainGlobals "product" = some (some (.ref f3))) (l3 : K.lookup f3 = some ⟨oc3, od3, .func (PySem.W.fnOf "product" "product" (defArgs (topS 5)) (defBody (topS 5)) (defScope (topS 5)) .none kV3 dc3 pm3 an3 cd3 ct3), sl3⟩) (k3 : PySem.W.keepIn K (.ref f3) = true)
    (cc3 : PySem.W.codeIn K cd3 "product" = true)
    {f4 : Addr} {cd4 : Value} {oc4 kV4 dc4 pm4 ct4 : Value} {od4 an4 : Option Addr} {sl4 : Array (Option Value)} (a4 : PySem.W.nsIn K mainGlobals "is_less" = some (some (.ref f4))) (l4 : K.lookup f4 = some ⟨oc4, od4, .func (PySem.W.fnOf "is_less" "is_less" (defArgs (topS 6)) (defBody (topS 6)) (defScope (topS 6)) .none kV4 dc4 pm4 an4 cd4 ct4), sl4⟩) (k4 : PySem.W.keepIn K (.ref f4) = true)
    (cc4 : PySem.W.codeIn K cd4 "is_less" = true)
    {f5 : Addr} {cd5 : Value} {oc5 kV5 dc5 pm5 ct5 : Value} {od5 an5 : Option Addr} {sl5 : Array (Option Value)} (a5 : PySem.W.nsIn K mainGlobals "greater_of" = some (some (.ref f5))) (l5 : K.lookup f5 = some ⟨oc5, od5, .func (PySem.W.fnOf "greater_of" "greater_of" (defArgs (topS 7)) (defBody (topS 7)) (defScope (topS 7)) .none kV5 dc5 pm5 an5 cd5 ct5), sl5⟩) (k5 : PySem.W.keepIn K (.ref f5) = true)
    (cc5 : PySem.W.codeIn K cd5 "greater_of" = true)
    {f6 : Addr} {cd6 : Value} {oc6 kV6 dc6 pm6 ct6 : Value} {od6 an6 : Option Addr} {sl6 : Array (Option Value)} (a6 : PySem.W.nsIn K mainGlobals "gap_size" = some (some (.ref f6))) (l6 : K.lookup f6 = some ⟨oc6, od6, .func (PySem.W.fnOf "gap_size" "gap_size" (defArgs (topS 8)) (defBody (topS 8)) (defScope (topS 8)) .none kV6 dc6 pm6 an6 cd6 ct6), sl6⟩) (k6 : PySem.W.keepIn K (.ref f6) = true)
    (cc6 : PySem.W.codeIn K cd6 "gap_size" = true)
    {f7 : Addr} {cd7 : Value} {oc7 kV7 dc7 pm7 ct7 : Value} {od7 an7 : Option Addr} {sl7 : Array (Option Value)} (a7 : PySem.W.nsIn K mainGlobals "rounded_up" = some (some (.ref f7))) (l7 : K.lookup f7 = some ⟨oc7, od7, .func (PySem.W.fnOf "rounded_up" "rounded_up" (defArgs (topS 9)) (defBody (topS 9)) (defScope (topS 9)) .none kV7 dc7 pm7 an7 cd7 ct7), sl7⟩) (k7 : PySem.W.keepIn K (.ref f7) = true)
    (cc7 : PySem.W.codeIn K cd7 "rounded_up" = true)
    {f8 : Addr} {cd8 : Value} {oc8 kV8 dc8 pm8 ct8 : Value} {od8 an8 : Option Addr} {sl8 : Array (Option Value)} (a8 : PySem.W.nsIn K mainGlobals "forth_of" = some (some (.ref f8))) (l8 : K.lookup f8 = some ⟨oc8, od8, .func (PySem.W.fnOf "forth_of" "forth_of" (defArgs (topS 11)) (defBody (topS 11)) (defScope (topS 11)) .none kV8 dc8 pm8 an8 cd8 ct8), sl8⟩) (k8 : PySem.W.keepIn K (.ref f8) = true)
    (cc8 : PySem.W.codeIn K cd8 "forth_of" = true)
    {f9 : Addr} {cd9 : Value} {oc9 kV9 dc9 pm9 ct9 : Value} {od9 an9 : Option Addr} {sl9 : Array (Option Value)} (a9 : PySem.W.nsIn K mainGlobals "back_of" = some (some (.ref f9))) (l9 : K.lookup f9 = some ⟨oc9, od9, .func (PySem.W.fnOf "back_of" "back_of" (defArgs (topS 12)) (defBody (topS 12)) (defScope (topS 12)) .none kV9 dc9 pm9 an9 cd9 ct9), sl9⟩) (k9 : PySem.W.keepIn K (.ref f9) = true)
    (cc9 : PySem.W.codeIn K cd9 "back_of" = true)
    {f10 : Addr} {cd10 : Value} {oc10 kV10 dc10 pm10 ct10 : Value} {od10 an10 : Option Addr} {sl10 : Array (Option Value)} (a10 : PySem.W.nsIn K mainGlobals "least_trip" = some (some (.ref f10))) (l10 : K.lookup f10 = some ⟨oc10, od10, .func (PySem.W.fnOf "least_trip" "least_trip" (defArgs (topS 13)) (defBody (topS 13)) (defScope (topS 13)) .none kV10 dc10 pm10 an10 cd10 ct10), sl10⟩) (k10 : PySem.W.keepIn K (.ref f10) = true)
    (cc10 : PySem.W.codeIn K cd10 "least_trip" = true)
    {f11 : Addr} {cd11 : Value} {oc11 kV11 dc11 pm11 ct11 : Value} {od11 an11 : Option Addr} {sl11 : Array (Option Value)} (a11 : PySem.W.nsIn K mainGlobals "most_trip" = some (some (.ref f11))) (l11 : K.lookup f11 = some ⟨oc11, od11, .func (PySem.W.fnOf "most_trip" "most_trip" (defArgs (topS 14)) (defBody (topS 14)) (defScope (topS 14)) .none kV11 dc11 pm11 an11 cd11 ct11), sl11⟩) (k11 : PySem.W.keepIn K (.ref f11) = true)
    (cc11 : PySem.W.codeIn K cd11 "most_trip" = true)
    {f12 : Addr} {cd12 : Value} {oc12 kV12 dc12 pm12 ct12 : Value} {od12 an12 : Option Addr} {sl12 : Array (Option Value)} (a12 : PySem.W.nsIn K mainGlobals "width_of" = some (some (.ref f12))) (l12 : K.lookup f12 = some ⟨oc12, od12, .func (PySem.W.fnOf "width_of" "width_of" (defArgs (topS 15)) (defBody (topS 15)) (defScope (topS 15)) .none kV12 dc12 pm12 an12 cd12 ct12), sl12⟩) (k12 : PySem.W.keepIn K (.ref f12) = true)
    (cc12 : PySem.W.codeIn K cd12 "width_of" = true)
    {f13 : Addr} {cd13 : Value} {oc13 kV13 dc13 pm13 ct13 : Value} {od13 an13 : Option Addr} {sl13 : Array (Option Value)} (a13 : PySem.W.nsIn K mainGlobals "smoothed" = some (some (.ref f13))) (l13 : K.lookup f13 = some ⟨oc13, od13, .func (PySem.W.fnOf "smoothed" "smoothed" (defArgs (topS 17)) (defBody (topS 17)) (defScope (topS 17)) .none kV13 dc13 pm13 an13 cd13 ct13), sl13⟩) (k13 : PySem.W.keepIn K (.ref f13) = true)
    (cc13 : PySem.W.codeIn K cd13 "smoothed" = true)
    {f14 : Addr} {cd14 : Value} {oc14 kV14 dc14 pm14 ct14 : Value} {od14 an14 : Option Addr} {sl14 : Array (Option Value)} (a14 : PySem.W.nsIn K mainGlobals "first_pair" = some (some (.ref f14))) (l14 : K.lookup f14 = some ⟨oc14, od14, .func (PySem.W.fnOf "first_pair" "first_pair" (defArgs (topS 18)) (defBody (topS 18)) (defScope (topS 18)) .none kV14 dc14 pm14 an14 cd14 ct14), sl14⟩) (k14 : PySem.W.keepIn K (.ref f14) = true)
    (cc14 : PySem.W.codeIn K cd14 "first_pair" = true)
    {f15 : Addr} {cd15 : Value} {oc15 kV15 dc15 pm15 ct15 : Value} {od15 an15 : Option Addr} {sl15 : Array (Option Value)} (a15 : PySem.W.nsIn K mainGlobals "length_of" = some (some (.ref f15))) (l15 : K.lookup f15 = some ⟨oc15, od15, .func (PySem.W.fnOf "length_of" "length_of" (defArgs (topS 19)) (defBody (topS 19)) (defScope (topS 19)) .none kV15 dc15 pm15 an15 cd15 ct15), sl15⟩) (k15 : PySem.W.keepIn K (.ref f15) = true)
    (cc15 : PySem.W.codeIn K cd15 "length_of" = true)
    {f16 : Addr} {cd16 : Value} {oc16 kV16 dc16 pm16 ct16 : Value} {od16 an16 : Option Addr} {sl16 : Array (Option Value)} (a16 : PySem.W.nsIn K mainGlobals "lengths" = some (some (.ref f16))) (l16 : K.lookup f16 = some ⟨oc16, od16, .func (PySem.W.fnOf "lengths" "lengths" (defArgs (topS 20)) (defBody (topS 20)) (defScope (topS 20)) .none kV16 dc16 pm16 an16 cd16 ct16), sl16⟩) (k16 : PySem.W.keepIn K (.ref f16) = true)
    (cc16 : PySem.W.codeIn K cd16 "lengths" = true)
    {f17 : Addr} {cd17 : Value} {oc17 kV17 dc17 pm17 ct17 : Value} {od17 an17 : Option Addr} {sl17 : Array (Option Value)} (a17 : PySem.W.nsIn K mainGlobals "least_length" = some (some (.ref f17))) (l17 : K.lookup f17 = some ⟨oc17, od17, .func (PySem.W.fnOf "least_length" "least_length" (defArgs (topS 21)) (defBody (topS 21)) (defScope (topS 21)) .none kV17 dc17 pm17 an17 cd17 ct17), sl17⟩) (k17 : PySem.W.keepIn K (.ref f17) = true)
    (cc17 : PySem.W.codeIn K cd17 "least_length" = true)
    {f18 : Addr} {cd18 : Value} {oc18 kV18 dc18 pm18 ct18 : Value} {od18 an18 : Option Addr} {sl18 : Array (Option Value)} (a18 : PySem.W.nsIn K mainGlobals "spreads" = some (some (.ref f18))) (l18 : K.lookup f18 = some ⟨oc18, od18, .func (PySem.W.fnOf "spreads" "spreads" (defArgs (topS 23)) (defBody (topS 23)) (defScope (topS 23)) .none kV18 dc18 pm18 an18 cd18 ct18), sl18⟩) (k18 : PySem.W.keepIn K (.ref f18) = true)
    (cc18 : PySem.W.codeIn K cd18 "spreads" = true)
    {f19 : Addr} {cd19 : Value} {oc19 kV19 dc19 pm19 ct19 : Value} {od19 an19 : Option Addr} {sl19 : Array (Option Value)} (a19 : PySem.W.nsIn K mainGlobals "first_length" = some (some (.ref f19))) (l19 : K.lookup f19 = some ⟨oc19, od19, .func (PySem.W.fnOf "first_length" "first_length" (defArgs (topS 24)) (defBody (topS 24)) (defScope (topS 24)) .none kV19 dc19 pm19 an19 cd19 ct19), sl19⟩) (k19 : PySem.W.keepIn K (.ref f19) = true)
    (cc19 : PySem.W.codeIn K cd19 "first_length" = true)
    {f20 : Addr} {cd20 : Value} {oc20 kV20 dc20 pm20 ct20 : Value} {od20 an20 : Option Addr} {sl20 : Array (Option Value)} (a20 : PySem.W.nsIn K mainGlobals "patience_of" = some (some (.ref f20))) (l20 : K.lookup f20 = some ⟨oc20, od20, .func (PySem.W.fnOf "patience_of" "patience_of" (defArgs (topS 25)) (defBody (topS 25)) (defScope (topS 25)) .none kV20 dc20 pm20 an20 cd20 ct20), sl20⟩) (k20 : PySem.W.keepIn K (.ref f20) = true)
    (cc20 : PySem.W.codeIn K cd20 "patience_of" = true)
    {f21 : Addr} {cd21 : Value} {oc21 kV21 dc21 pm21 ct21 : Value} {od21 an21 : Option Addr} {sl21 : Array (Option Value)} (a21 : PySem.W.nsIn K mainGlobals "is_timed" = some (some (.ref f21))) (l21 : K.lookup f21 = some ⟨oc21, od21, .func (PySem.W.fnOf "is_timed" "is_timed" (defArgs (topS 26)) (defBody (topS 26)) (defScope (topS 26)) .none kV21 dc21 pm21 an21 cd21 ct21), sl21⟩) (k21 : PySem.W.keepIn K (.ref f21) = true)
    (cc21 : PySem.W.codeIn K cd21 "is_timed" = true)
    {f22 : Addr} {cd22 : Value} {oc22 kV22 dc22 pm22 ct22 : Value} {od22 an22 : Option Addr} {sl22 : Array (Option Value)} (a22 : PySem.W.nsIn K mainGlobals "first_fault" = some (some (.ref f22))) (l22 : K.lookup f22 = some ⟨oc22, od22, .func (PySem.W.fnOf "first_fault" "first_fault" (defArgs (topS 27)) (defBody (topS 27)) (defScope (topS 27)) .none kV22 dc22 pm22 an22 cd22 ct22), sl22⟩) (k22 : PySem.W.keepIn K (.ref f22) = true)
    (cc22 : PySem.W.codeIn K cd22 "first_fault" = true)
    {f23 : Addr} {cd23 : Value} {oc23 kV23 dc23 pm23 ct23 : Value} {od23 an23 : Option Addr} {sl23 : Array (Option Value)} (a23 : PySem.W.nsIn K mainGlobals "pause_of" = some (some (.ref f23))) (l23 : K.lookup f23 = some ⟨oc23, od23, .func (PySem.W.fnOf "pause_of" "pause_of" (defArgs (topS 28)) (defBody (topS 28)) (defScope (topS 28)) .none kV23 dc23 pm23 an23 cd23 ct23), sl23⟩) (k23 : PySem.W.keepIn K (.ref f23) = true)
    (cc23 : PySem.W.codeIn K cd23 "pause_of" = true)
    {f24 : Addr} {c24 P24 : Addr} {ce24 : Value} {cdd24 : Option Addr} {cvs24 : Array Value} {csl24 : Array (Option Value)} {oc24 kV24 dc24 pm24 ct24 : Value} {od24 an24 : Option Addr} {sl24 : Array (Option Value)} (a24 : PySem.W.nsIn K mainGlobals "grown_to_most" = some (some (.ref f24))) (l24 : K.lookup f24 = some ⟨oc24, od24, .func (PySem.W.fnOf "grown_to_most" "grown_to_most" (defArgs (topS 29)) (defBody (topS 29)) (defScope (topS 29)) .none kV24 dc24 pm24 an24 (.ref c24) ct24), sl24⟩) (k24 : PySem.W.keepIn K (.ref f24) = true)
    (cc24 : PySem.W.codeIn K (.ref c24) "grown_to_most" = true)
    (m24 : K.lookup c24 = some ⟨ce24, cdd24, .fields cvs24, csl24⟩) (p24 : cvs24[11]? = some (.ref P24)) (n24 : K.lookup P24 = none) (r24 : ((recsOf l.prog).any fun d => d.name == PySem.Str.ofString "grown_to_most") = true)
    {f25 : Addr} {c25 P25 : Addr} {ce25 : Value} {cdd25 : Option Addr} {cvs25 : Array Value} {csl25 : Array (Option Value)} {oc25 kV25 dc25 pm25 ct25 : Value} {od25 an25 : Option Addr} {sl25 : Array (Option Value)} (a25 : PySem.W.nsIn K mainGlobals "timer_case" = some (some (.ref f25))) (l25 : K.lookup f25 = some ⟨oc25, od25, .func (PySem.W.fnOf "timer_case" "timer_case" (defArgs (topS 30)) (defBody (topS 30)) (defScope (topS 30)) .none kV25 dc25 pm25 an25 (.ref c25) ct25), sl25⟩) (k25 : PySem.W.keepIn K (.ref f25) = true)
    (cc25 : PySem.W.codeIn K (.ref c25) "timer_case" = true)
    (m25 : K.lookup c25 = some ⟨ce25, cdd25, .fields cvs25, csl25⟩) (p25 : cvs25[11]? = some (.ref P25)) (n25 : K.lookup P25 = none) (r25 : ((recsOf l.prog).any fun d => d.name == PySem.Str.ofString "timer_case") = true)
    {f26 : Addr} {cd26 : Value} {oc26 kV26 dc26 pm26 ct26 : Value} {od26 an26 : Option Addr} {sl26 : Array (Option Value)} (a26 : PySem.W.nsIn K mainGlobals "number_case" = some (some (.ref f26))) (l26 : K.lookup f26 = some ⟨oc26, od26, .func (PySem.W.fnOf "number_case" "number_case" (defArgs (topS 31)) (defBody (topS 31)) (defScope (topS 31)) .none kV26 dc26 pm26 an26 cd26 ct26), sl26⟩) (k26 : PySem.W.keepIn K (.ref f26) = true)
    (cc26 : PySem.W.codeIn K cd26 "number_case" = true)
    {f27 : Addr} {cd27 : Value} {oc27 kV27 dc27 pm27 ct27 : Value} {od27 an27 : Option Addr} {sl27 : Array (Option Value)} (a27 : PySem.W.nsIn K mainGlobals "time_case" = some (some (.ref f27))) (l27 : K.lookup f27 = some ⟨oc27, od27, .func (PySem.W.fnOf "time_case" "time_case" (defArgs (topS 32)) (defBody (topS 32)) (defScope (topS 32)) .none kV27 dc27 pm27 an27 cd27 ct27), sl27⟩) (k27 : PySem.W.keepIn K (.ref f27) = true)
    (cc27 : PySem.W.codeIn K cd27 "time_case" = true)
    {f28 : Addr} {cd28 : Value} {oc28 kV28 dc28 pm28 ct28 : Value} {od28 an28 : Option Addr} {sl28 : Array (Option Value)} (a28 : PySem.W.nsIn K mainGlobals "sure" = some (some (.ref f28))) (l28 : K.lookup f28 = some ⟨oc28, od28, .func (PySem.W.fnOf "sure" "sure" (defArgs (topS 33)) (defBody (topS 33)) (defScope (topS 33)) .none kV28 dc28 pm28 an28 cd28 ct28), sl28⟩) (k28 : PySem.W.keepIn K (.ref f28) = true)
    (cc28 : PySem.W.codeIn K cd28 "sure" = true)
    {f29 : Addr} {cd29 : Value} {oc29 kV29 dc29 pm29 ct29 : Value} {od29 an29 : Option Addr} {sl29 : Array (Option Value)} (a29 : PySem.W.nsIn K mainGlobals "with_items" = some (some (.ref f29))) (l29 : K.lookup f29 = some ⟨oc29, od29, .func (PySem.W.fnOf "with_items" "with_items" (defArgs (topS 38)) (defBody (topS 38)) (defScope (topS 38)) .none kV29 dc29 pm29 an29 cd29 ct29), sl29⟩) (k29 : PySem.W.keepIn K (.ref f29) = true)
    (cc29 : PySem.W.codeIn K cd29 "with_items" = true)
    {f30 : Addr} {cd30 : Value} {oc30 kV30 dc30 pm30 ct30 : Value} {od30 an30 : Option Addr} {sl30 : Array (Option Value)} (a30 : PySem.W.nsIn K mainGlobals "with_timers" = some (some (.ref f30))) (l30 : K.lookup f30 = some ⟨oc30, od30, .func (PySem.W.fnOf "with_timers" "with_timers" (defArgs (topS 39)) (defBody (topS 39)) (defScope (topS 39)) .none kV30 dc30 pm30 an30 cd30 ct30), sl30⟩) (k30 : PySem.W.keepIn K (.ref f30) = true)
    (cc30 : PySem.W.codeIn K cd30 "with_timers" = true)
    {f31 : Addr} {cd31 : Value} {oc31 kV31 dc31 pm31 ct31 : Value} {od31 an31 : Option Addr} {sl31 : Array (Option Value)} (a31 : PySem.W.nsIn K mainGlobals "with_theta" = some (some (.ref f31))) (l31 : K.lookup f31 = some ⟨oc31, od31, .func (PySem.W.fnOf "with_theta" "with_theta" (defArgs (topS 40)) (defBody (topS 40)) (defScope (topS 40)) .none kV31 dc31 pm31 an31 cd31 ct31), sl31⟩) (k31 : PySem.W.keepIn K (.ref f31) = true)
    (cc31 : PySem.W.codeIn K cd31 "with_theta" = true)
    {f32 : Addr} {cd32 : Value} {oc32 kV32 dc32 pm32 ct32 : Value} {od32 an32 : Option Addr} {sl32 : Array (Option Value)} (a32 : PySem.W.nsIn K mainGlobals "mended" = some (some (.ref f32))) (l32 : K.lookup f32 = some ⟨oc32, od32, .func (PySem.W.fnOf "mended" "mended" (defArgs (topS 41)) (defBody (topS 41)) (defScope (topS 41)) .none kV32 dc32 pm32 an32 cd32 ct32), sl32⟩) (k32 : PySem.W.keepIn K (.ref f32) = true)
    (cc32 : PySem.W.codeIn K cd32 "mended" = true)
    {f33 : Addr} {cd33 : Value} {oc33 kV33 dc33 pm33 ct33 : Value} {od33 an33 : Option Addr} {sl33 : Array (Option Value)} (a33 : PySem.W.nsIn K mainGlobals "_law_bag" = some (some (.ref f33))) (l33 : K.lookup f33 = some ⟨oc33, od33, .func (PySem.W.fnOf "_law_bag" "_law_bag" (defArgs (topS 43)) (defBody (topS 43)) (defScope (topS 43)) .none kV33 dc33 pm33 an33 cd33 ct33), sl33⟩) (k33 : PySem.W.keepIn K (.ref f33) = true)
    (cc33 : PySem.W.codeIn K cd33 "_law_bag" = true)
    {f34 : Addr} {cd34 : Value} {oc34 kV34 dc34 pm34 ct34 : Value} {od34 an34 : Option Addr} {sl34 : Array (Option Value)} (a34 : PySem.W.nsIn K mainGlobals "_law_draw" = some (some (.ref f34))) (l34 : K.lookup f34 = some ⟨oc34, od34, .func (PySem.W.fnOf "_law_draw" "_law_draw" (defArgs (topS 44)) (defBody (topS 44)) (defScope (topS 44)) .none kV34 dc34 pm34 an34 cd34 ct34), sl34⟩) (k34 : PySem.W.keepIn K (.ref f34) = true)
    (cc34 : PySem.W.codeIn K cd34 "_law_draw" = true)
    {f35 : Addr} {cd35 : Value} {oc35 kV35 dc35 pm35 ct35 : Value} {od35 an35 : Option Addr} {sl35 : Array (Option Value)} (a35 : PySem.W.nsIn K mainGlobals "_law_pick" = some (some (.ref f35))) (l35 : K.lookup f35 = some ⟨oc35, od35, .func (PySem.W.fnOf "_law_pick" "_law_pick" (defArgs (topS 45)) (defBody (topS 45)) (defScope (topS 45)) .none kV35 dc35 pm35 an35 cd35 ct35), sl35⟩) (k35 : PySem.W.keepIn K (.ref f35) = true)
    (cc35 : PySem.W.codeIn K cd35 "_law_pick" = true)
    {f36 : Addr} {cd36 : Value} {oc36 kV36 dc36 pm36 ct36 : Value} {od36 an36 : Option Addr} {sl36 : Array (Option Value)} (a36 : PySem.W.nsIn K mainGlobals "_law_same" = some (some (.ref f36))) (l36 : K.lookup f36 = some ⟨oc36, od36, .func (PySem.W.fnOf "_law_same" "_law_same" (defArgs (topS 46)) (defBody (topS 46)) (defScope (topS 46)) .none kV36 dc36 pm36 an36 cd36 ct36), sl36⟩) (k36 : PySem.W.keepIn K (.ref f36) = true)
    (cc36 : PySem.W.codeIn K cd36 "_law_same" = true)
    {f37 : Addr} {cd37 : Value} {oc37 kV37 dc37 pm37 ct37 : Value} {od37 an37 : Option Addr} {sl37 : Array (Option Value)} (a37 : PySem.W.nsIn K mainGlobals "_law_gcd" = some (some (.ref f37))) (l37 : K.lookup f37 = some ⟨oc37, od37, .func (PySem.W.fnOf "_law_gcd" "_law_gcd" (defArgs (topS 47)) (defBody (topS 47)) (defScope (topS 47)) .none kV37 dc37 pm37 an37 cd37 ct37), sl37⟩) (k37 : PySem.W.keepIn K (.ref f37) = true)
    (cc37 : PySem.W.codeIn K cd37 "_law_gcd" = true)
    {f38 : Addr} {cd38 : Value} {oc38 kV38 dc38 pm38 ct38 : Value} {od38 an38 : Option Addr} {sl38 : Array (Option Value)} (a38 : PySem.W.nsIn K mainGlobals "_law_fr" = some (some (.ref f38))) (l38 : K.lookup f38 = some ⟨oc38, od38, .func (PySem.W.fnOf "_law_fr" "_law_fr" (defArgs (topS 48)) (defBody (topS 48)) (defScope (topS 48)) .none kV38 dc38 pm38 an38 cd38 ct38), sl38⟩) (k38 : PySem.W.keepIn K (.ref f38) = true)
    (cc38 : PySem.W.codeIn K cd38 "_law_fr" = true)
    {f39 : Addr} {cd39 : Value} {oc39 kV39 dc39 pm39 ct39 : Value} {od39 an39 : Option Addr} {sl39 : Array (Option Value)} (a39 : PySem.W.nsIn K mainGlobals "_law_times" = some (some (.ref f39))) (l39 : K.lookup f39 = some ⟨oc39, od39, .func (PySem.W.fnOf "_law_times" "_law_times" (defArgs (topS 49)) (defBody (topS 49)) (defScope (topS 49)) .none kV39 dc39 pm39 an39 cd39 ct39), sl39⟩) (k39 : PySem.W.keepIn K (.ref f39) = true)
    (cc39 : PySem.W.codeIn K cd39 "_law_times" = true)
    {f40 : Addr} {cd40 : Value} {oc40 kV40 dc40 pm40 ct40 : Value} {od40 an40 : Option Addr} {sl40 : Array (Option Value)} (a40 : PySem.W.nsIn K mainGlobals "_law_more" = some (some (.ref f40))) (l40 : K.lookup f40 = some ⟨oc40, od40, .func (PySem.W.fnOf "_law_more" "_law_more" (defArgs (topS 50)) (defBody (topS 50)) (defScope (topS 50)) .none kV40 dc40 pm40 an40 cd40 ct40), sl40⟩) (k40 : PySem.W.keepIn K (.ref f40) = true)
    (cc40 : PySem.W.codeIn K cd40 "_law_more" = true)
    {f41 : Addr} {cd41 : Value} {oc41 kV41 dc41 pm41 ct41 : Value} {od41 an41 : Option Addr} {sl41 : Array (Option Value)} (a41 : PySem.W.nsIn K mainGlobals "_law_up" = some (some (.ref f41))) (l41 : K.lookup f41 = some ⟨oc41, od41, .func (PySem.W.fnOf "_law_up" "_law_up" (defArgs (topS 51)) (defBody (topS 51)) (defScope (topS 51)) .none kV41 dc41 pm41 an41 cd41 ct41), sl41⟩) (k41 : PySem.W.keepIn K (.ref f41) = true)
    (cc41 : PySem.W.codeIn K cd41 "_law_up" = true)
    {f42 : Addr} {cd42 : Value} {oc42 kV42 dc42 pm42 ct42 : Value} {od42 an42 : Option Addr} {sl42 : Array (Option Value)} (a42 : PySem.W.nsIn K mainGlobals "_law_road" = some (some (.ref f42))) (l42 : K.lookup f42 = some ⟨oc42, od42, .func (PySem.W.fnOf "_law_road" "_law_road" (defArgs (topS 52)) (defBody (topS 52)) (defScope (topS 52)) .none kV42 dc42 pm42 an42 cd42 ct42), sl42⟩) (k42 : PySem.W.keepIn K (.ref f42) = true)
    (cc42 : PySem.W.codeIn K cd42 "_law_road" = true)
    {f43 : Addr} {cd43 : Value} {oc43 kV43 dc43 pm43 ct43 : Value} {od43 an43 : Option Addr} {sl43 : Array (Option Value)} (a43 : PySem.W.nsIn K mainGlobals "_law_book" = some (some (.ref f43))) (l43 : K.lookup f43 = some ⟨oc43, od43, .func (PySem.W.fnOf "_law_book" "_law_book" (defArgs (topS 53)) (defBody (topS 53)) (defScope (topS 53)) .none kV43 dc43 pm43 an43 cd43 ct43), sl43⟩) (k43 : PySem.W.keepIn K (.ref f43) = true)
    (cc43 : PySem.W.codeIn K cd43 "_law_book" = true)
    {f44 : Addr} {cd44 : Value} {oc44 kV44 dc44 pm44 ct44 : Value} {od44 an44 : Option Addr} {sl44 : Array (Option Value)} (a44 : PySem.W.nsIn K mainGlobals "_law_s" = some (some (.ref f44))) (l44 : K.lookup f44 = some ⟨oc44, od44, .func (PySem.W.fnOf "_law_s" "_law_s" (defArgs (topS 54)) (defBody (topS 54)) (defScope (topS 54)) .none kV44 dc44 pm44 an44 cd44 ct44), sl44⟩) (k44 : PySem.W.keepIn K (.ref f44) = true)
    (cc44 : PySem.W.codeIn K cd44 "_law_s" = true)
    {f45 : Addr} {cd45 : Value} {oc45 kV45 dc45 pm45 ct45 : Value} {od45 an45 : Option Addr} {sl45 : Array (Option Value)} (a45 : PySem.W.nsIn K mainGlobals "_law_fault" = some (some (.ref f45))) (l45 : K.lookup f45 = some ⟨oc45, od45, .func (PySem.W.fnOf "_law_fault" "_law_fault" (defArgs (topS 55)) (defBody (topS 55)) (defScope (topS 55)) .none kV45 dc45 pm45 an45 cd45 ct45), sl45⟩) (k45 : PySem.W.keepIn K (.ref f45) = true)
    (cc45 : PySem.W.codeIn K cd45 "_law_fault" = true)
    {f46 : Addr} {cd46 : Value} {oc46 kV46 dc46 pm46 ct46 : Value} {od46 an46 : Option Addr} {sl46 : Array (Option Value)} (a46 : PySem.W.nsIn K mainGlobals "_law_made_sure" = some (some (.ref f46))) (l46 : K.lookup f46 = some ⟨oc46, od46, .func (PySem.W.fnOf "_law_made_sure" "_law_made_sure" (defArgs (topS 56)) (defBody (topS 56)) (defScope (topS 56)) .none kV46 dc46 pm46 an46 cd46 ct46), sl46⟩) (k46 : PySem.W.keepIn K (.ref f46) = true)
    (cc46 : PySem.W.codeIn K cd46 "_law_made_sure" = true)
    {f47 : Addr} {cd47 : Value} {oc47 kV47 dc47 pm47 ct47 : Value} {od47 an47 : Option Addr} {sl47 : Array (Option Value)} (a47 : PySem.W.nsIn K mainGlobals "_law_some_road" = some (some (.ref f47))) (l47 : K.lookup f47 = some ⟨oc47, od47, .func (PySem.W.fnOf "_law_some_road" "_law_some_road" (defArgs (topS 57)) (defBody (topS 57)) (defScope (topS 57)) .none kV47 dc47 pm47 an47 cd47 ct47), sl47⟩) (k47 : PySem.W.keepIn K (.ref f47) = true)
    (cc47 : PySem.W.codeIn K cd47 "_law_some_road" = true)
    {f48 : Addr} {cd48 : Value} {oc48 kV48 dc48 pm48 ct48 : Value} {od48 an48 : Option Addr} {sl48 : Array (Option Value)} (a48 : PySem.W.nsIn K mainGlobals "_law_theta_will_do" = some (some (.ref f48))) (l48 : K.lookup f48 = some ⟨oc48, od48, .func (PySem.W.fnOf "_law_theta_will_do" "_law_theta_will_do" (defArgs (topS 58)) (defBody (topS 58)) (defScope (topS 58)) .none kV48 dc48 pm48 an48 cd48 ct48), sl48⟩) (k48 : PySem.W.keepIn K (.ref f48) = true)
    (cc48 : PySem.W.codeIn K cd48 "_law_theta_will_do" = true)
    {f49 : Addr} {cd49 : Value} {oc49 kV49 dc49 pm49 ct49 : Value} {od49 an49 : Option Addr} {sl49 : Array (Option Value)} (a49 : PySem.W.nsIn K mainGlobals "_law_mended" = some (some (.ref f49))) (l49 : K.lookup f49 = some ⟨oc49, od49, .func (PySem.W.fnOf "_law_mended" "_law_mended" (defArgs (topS 59)) (defBody (topS 59)) (defScope (topS 59)) .none kV49 dc49 pm49 an49 cd49 ct49), sl49⟩) (k49 : PySem.W.keepIn K (.ref f49) = true)
    (cc49 : PySem.W.codeIn K cd49 "_law_mended" = true)
    {f50 : Addr} {cd50 : Value} {oc50 kV50 dc50 pm50 ct50 : Value} {od50 an50 : Option Addr} {sl50 : Array (Option Value)} (a50 : PySem.W.nsIn K mainGlobals "_law_less" = some (some (.ref f50))) (l50 : K.lookup f50 = some ⟨oc50, od50, .func (PySem.W.fnOf "_law_less" "_law_less" (defArgs (topS 60)) (defBody (topS 60)) (defScope (topS 60)) .none kV50 dc50 pm50 an50 cd50 ct50), sl50⟩) (k50 : PySem.W.keepIn K (.ref f50) = true)
    (cc50 : PySem.W.codeIn K cd50 "_law_less" = true)
    {f51 : Addr} {cd51 : Value} {oc51 kV51 dc51 pm51 ct51 : Value} {od51 an51 : Option Addr} {sl51 : Array (Option Value)} (a51 : PySem.W.nsIn K mainGlobals "law" = some (some (.ref f51))) (l51 : K.lookup f51 = some ⟨oc51, od51, .func (PySem.W.fnOf "law" "law" (defArgs (topS 61)) (defBody (topS 61)) (defScope (topS 61)) .none kV51 dc51 pm51 an51 cd51 ct51), sl51⟩) (k51 : PySem.W.keepIn K (.ref f51) = true)
    (cc51 : PySem.W.codeIn K cd51 "law" = true)
    (z0 : PySem.W.nsIn K mainGlobals "abs" = some none)
    (z1 : PySem.W.nsIn K mainGlobals "tuple" = some none)
    (z2 : PySem.W.nsIn K mainGlobals "range" = some none)
    (z3 : PySem.W.nsIn K mainGlobals "max" = some none)
    (z4 : PySem.W.nsIn K mainGlobals "len" = some none)
    (z5 : PySem.W.nsIn K mainGlobals "list" = some none)
    (z6 : PySem.W.nsIn K mainGlobals "int" = some none)
    (z7 : PySem.W.nsIn K mainGlobals "isinstance" = some none)
    (z8 : PySem.W.nsIn K mainGlobals "str" = some none)
    (z9 : PySem.W.nsIn K mainGlobals "bool" = some none)
    {tk0 : Tok} (q0 : PySem.W.nsIn K mainGlobals "MOST_GRAIN" = some (some (.int 1000 tk0)))
    {tk1 : Tok} (q1 : PySem.W.nsIn K mainGlobals "MOST_EIGHTHS" = some (some (.int 72 tk1)))
    {tk2 : Tok} (q2 : PySem.W.nsIn K mainGlobals "MOST_K" = some (some (.int 9 tk2)))
    : LamX.LawAtS l w K CX0 (8 * LV) 63 "script" mg fa h := by
  letI tabs : Tabs := ⟨[(c24, P24), (c25, P25)]⟩
  have e := hfa.symm.trans (PySem.W.mg_of X G a51)
  cases e
  have K0 : DefK K mg kw 0 d_divisor := defK_mk (d := d_divisor) X G a0 l0 cc0 k0 (fun _ _ _ _ _ _ us hl => match us, hl with | [_, _], _ => rfl) (fun kV doc pm an cdv ct q hq => (nomatch (show q ∈ ([] : List (Nat × List Str × List Nat)) from hq))) (fun z => by cases z)
  have K1 : DefK K mg kw 1 d_lowest := defK_mk (d := d_lowest) X G a1 l1 cc1 k1 (fun _ _ _ _ _ _ us hl => match us, hl with | [_, _], _ => rfl) (fun kV doc pm an cdv ct q hq => (nomatch (show q ∈ ([] : List (Nat × List Str × List Nat)) from hq))) (fun z => by cases z)
  have K2 : DefK K mg kw 2 d_plus := defK_mk (d := d_plus) X G a2 l2 cc2 k2 (fun _ _ _ _ _ _ us hl => match us, hl with | [_, _], _ => rfl) (fun kV doc pm an cdv ct q hq => (nomatch (show q ∈ ([] : List (Nat × List Str × List Nat)) from hq))) (fun z => by cases z)
  have K3 : DefK K mg kw 3 d_product := defK_mk (d := d_product) X G a3 l3 cc3 k3 (fun _ _ _ _ _ _ us hl => match us, hl with | [_, _], _ => rfl) (fun kV doc pm an cdv ct q hq => (nomatch (show q ∈ ([] : List (Nat × List Str × List Nat)) from hq))) (fun z => by cases z)
  have K4 : DefK K mg kw 4 d_is_less := defK_mk (d := d_is_less) X G a4 l4 cc4 k4 (fun _ _ _ _ _ _ us hl => match us, hl with | [_, _], _ => rfl) (fun kV doc pm an cdv ct q hq => (nomatch (show q ∈ ([] : List (Nat × List Str × List Nat)) from hq))) (fun z => by cases z)
  have K5 : DefK K mg kw 5 d_greater_of := defK_mk (d := d_greater_of) X G a5 l5 cc5 k5 (fun _ _ _ _ _ _ us hl => match us, hl with | [_, _], _ => rfl) (fun kV doc pm an cdv ct q hq => (nomatch (show q ∈ ([] : List (Nat × List Str × List Nat)) from hq))) (fun z => by cases z)
  have K6 : DefK K mg kw 6 d_gap_size := defK_mk (d := d_gap_size) X G a6 l6 cc6 k6 (fun _ _ _ _ _ _ us hl => match us, hl with | [_, _], _ => rfl) (fun kV doc pm an cdv ct q hq => (nomatch (show q ∈ ([] : List (Nat × List Str × List Nat)) from hq))) (fun z => by cases z)
  have K7 : DefK K mg kw 7 d_rounded_up := defK_mk (d := d_rounded_up) X G a7 l7 cc7 k7 (fun _ _ _ _ _ _ us hl => match us, hl with | [_], _ => rfl) (fun kV doc pm an cdv ct q hq => (nomatch (show q ∈ ([] : List (Nat × List Str × List Nat)) from hq))) (fun z => by cases z)
  have K8 : DefK K mg kw 8 d_forth_of := defK_mk (d := d_forth_of) X G a8 l8 cc8 k8 (fun _ _ _ _ _ _ us hl => match us, hl with | [_], _ => rfl) (fun kV doc pm an cdv ct q hq => (nomatch (show q ∈ ([] : List (Nat × List Str × List Nat)) from hq))) (fun z => by cases z)
  have K9 : DefK K mg kw 9 d_back_of := defK_mk (d := d_back_of) X G a9 l9 cc9 k9 (fun _ _ _ _ _ _ us hl => match us, hl with | [_], _ => rfl) (fun kV doc pm an cdv ct q hq => (nomatch (show q ∈ ([] : List (Nat × List Str × List Nat)) from hq))) (fun z => by cases z)
  have K10 : DefK K mg kw 10 d_least_trip := defK_mk (d := d_least_trip) X G a10 l10 cc10 k10 (fun _ _ _ _ _ _ us hl => match us, hl with | [_], _ => rfl) (fun kV doc pm an cdv ct q hq => (nomatch (show q ∈ ([] : List (Nat × List Str × List Nat)) from hq))) (fun z => by cases z)
  have K11 : DefK K mg kw 11 d_most_trip := defK_mk (d := d_most_trip) X G a11 l11 cc11 k11 (fun _ _ _ _ _ _ us hl => match us, hl with | [_], _ => rfl) (fun kV doc pm an cdv ct q hq => (nomatch (show q ∈ ([] : List (Nat × List Str × List Nat)) from hq))) (fun z => by cases z)
  have K12 : DefK K mg kw 12 d_width_of := defK_mk (d := d_width_of) X G a12 l12 cc12 k12 (fun _ _ _ _ _ _ us hl => match us, hl with | [_], _ => rfl) (fun kV doc pm an cdv ct q hq => (nomatch (show q ∈ ([] : List (Nat × List Str × List Nat)) from hq))) (fun z => by cases z)
  have K13 : DefK K mg kw 13 d_smoothed := defK_mk (d := d_smoothed) X G a13 l13 cc13 k13 (fun _ _ _ _ _ _ us hl => match us, hl with | [_, _, _], _ => rfl) (fun kV doc pm an cdv ct q hq => (nomatch (show q ∈ ([] : List (Nat × List Str × List Nat)) from hq))) (fun z => by cases z)
  have K14 : DefK K mg kw 14 d_first_pair := defK_mk (d := d_first_pair) X G a14 l14 cc14 k14 (fun _ _ _ _ _ _ us hl => match us, hl with | [_], _ => rfl) (fun kV doc pm an cdv ct q hq => (nomatch (show q ∈ ([] : List (Nat × List Str × List Nat)) from hq))) (fun z => by cases z)
  have K15 : DefK K mg kw 15 d_length_of := defK_mk (d := d_length_of) X G a15 l15 cc15 k15 (fun _ _ _ _ _ _ us hl => match us, hl with | [_, _, _], _ => rfl) (fun kV doc pm an cdv ct q hq => (nomatch (show q ∈ ([] : List (Nat × List Str × List Nat)) from hq))) (fun z => by cases z)
  have K16 : DefK K mg kw 16 d_lengths := defK_mk (d := d_lengths) X G a16 l16 cc16 k16 (fun _ _ _ _ _ _ us hl => match us, hl with | [_], _ => rfl) (fun kV doc pm an cdv ct q hq => (nomatch (show q ∈ ([] : List (Nat × List Str × List Nat)) from hq))) (fun z => by cases z)
  have K17 : DefK K mg kw 17 d_least_length := defK_mk (d := d_least_length) X G a17 l17 cc17 k17 (fun _ _ _ _ _ _ us hl => match us, hl with | [_, _, _, _], _ => rfl) (fun kV doc pm an cdv ct q hq => (nomatch (show q ∈ ([] : List (Nat × List Str × List Nat)) from hq))) (fun z => by cases z)
  have K18 : DefK K mg kw 18 d_spreads := defK_mk (d := d_spreads) X G a18 l18 cc18 k18 (fun _ _ _ _ _ _ us hl => match us, hl with | [_, _, _], _ => rfl) (fun kV doc pm an cdv ct q hq => (nomatch (show q ∈ ([] : List (Nat × List Str × List Nat)) from hq))) (fun z => by cases z)
  have K19 : DefK K mg kw 19 d_first_length := defK_mk (d := d_first_length) X G a19 l19 cc19 k19 (fun _ _ _ _ _ _ us hl => match us, hl with | [_], _ => rfl) (fun kV doc pm an cdv ct q hq => (nomatch (show q ∈ ([] : List (Nat × List Str × List Nat)) from hq))) (fun z => by cases z)
  have K20 : DefK K mg kw 20 d_patience_of := defK_mk (d := d_patience_of) X G a20 l20 cc20 k20 (fun _ _ _ _ _ _ us hl => match us, hl with | [_, _], _ => rfl) (fun kV doc pm an cdv ct q hq => (nomatch (show q ∈ ([] : List (Nat × List Str × List Nat)) from hq))) (fun z => by cases z)
  have K21 : DefK K mg kw 21 d_is_timed := defK_mk (d := d_is_timed) X G a21 l21 cc21 k21 (fun _ _ _ _ _ _ us hl => match us, hl with | [_, _], _ => rfl) (fun kV doc pm an cdv ct q hq => (nomatch (show q ∈ ([] : List (Nat × List Str × List Nat)) from hq))) (fun z => by cases z)
  have K22 : DefK K mg kw 22 d_first_fault := defK_mk (d := d_first_fault) X G a22 l22 cc22 k22 (fun _ _ _ _ _ _ us hl => match us, hl with | [_, _], _ => rfl) (fun kV doc pm an cdv ct q hq => (nomatch (show q ∈ ([] : List (Nat × List Str × List Nat)) from hq))) (fun z => by cases z)
  have K23 : DefK K mg kw 23 d_pause_of := defK_mk (d := d_pause_of) X G a23 l23 cc23 k23 (fun _ _ _ _ _ _ us hl => match us, hl with | [_, _], _ => rfl) (fun kV doc pm an cdv ct q hq => (nomatch (show q ∈ ([] : List (Nat × List Str × List Nat)) from hq))) (fun z => by cases z)
  have K24 : DefK K mg kw 24 d_grown_to_most := defK_mk (d := d_grown_to_most) X G a24 l24 cc24 k24 (fun _ _ _ _ _ _ us hl => match us, hl with | [_, _], _ => rfl) (fun kV doc pm an cdv ct q hq => (nomatch (show q ∈ ([] : List (Nat × List Str × List Nat)) from hq))) (fun _ => ⟨c24, P24, rfl, by show (c24, P24) ∈ [(c24, P24), (c25, P25)]; simp⟩)
  have K25 : DefK K mg kw 25 d_timer_case := defK_mk (d := d_timer_case) X G a25 l25 cc25 k25 (fun _ _ _ _ _ _ us hl => match us, hl with | [_, _], _ => rfl) (fun kV doc pm an cdv ct q hq => (nomatch (show q ∈ ([] : List (Nat × List Str × List Nat)) from hq))) (fun _ => ⟨c25, P25, rfl, by show (c25, P25) ∈ [(c24, P24), (c25, P25)]; simp⟩)
  have K26 : DefK K mg kw 26 d_number_case := defK_mk (d := d_number_case) X G a26 l26 cc26 k26 (fun _ _ _ _ _ _ us hl => match us, hl with | [_, _], _ => rfl) (fun kV doc pm an cdv ct q hq => (nomatch (show q ∈ ([] : List (Nat × List Str × List Nat)) from hq))) (fun z => by cases z)
  have K27 : DefK K mg kw 27 d_time_case := defK_mk (d := d_time_case) X G a27 l27 cc27 k27 (fun _ _ _ _ _ _ us hl => match us, hl with | [_, _], _ => rfl) (fun kV doc pm an cdv ct q hq => (nomatch (show q ∈ ([] : List (Nat × List Str × List Nat)) from hq))) (fun z => by cases z)
  have K28 : DefK K mg kw 28 d_sure := defK_mk (d := d_sure) X G a28 l28 cc28 k28 (fun _ _ _ _ _ _ us hl => match us, hl with | [_, _], _ => rfl) (fun kV doc pm an cdv ct q hq => by
      have hq' : q ∈ [((0, [PySem.Str.ofString "road", PySem.Str.ofString "book"], [1, 0]) : Nat × List Str × List Nat)] := hq
      simp only [List.mem_cons, List.not_mem_nil, or_false] at hq'
      subst hq'
      · exact ⟨fun us ws h1 h2 => match us, ws, h1, h2 with | [], [_, _], _, _ => rfl, by decide⟩) (fun z => by cases z)
  have K29 : DefK K mg kw 29 d_with_items := defK_mk (d := d_with_items) X G a29 l29 cc29 k29 (fun _ _ _ _ _ _ us hl => match us, hl with | [_, _], _ => rfl) (fun kV doc pm an cdv ct q hq => (nomatch (show q ∈ ([] : List (Nat × List Str × List Nat)) from hq))) (fun z => by cases z)
  have K30 : DefK K mg kw 30 d_with_timers := defK_mk (d := d_with_timers) X G a30 l30 cc30 k30 (fun _ _ _ _ _ _ us hl => match us, hl with | [_, _], _ => rfl) (fun kV doc pm an cdv ct q hq => (nomatch (show q ∈ ([] : List (Nat × List Str × List Nat)) from hq))) (fun z => by cases z)
  have K31 : DefK K mg kw 31 d_with_theta := defK_mk (d := d_with_theta) X G a31 l31 cc31 k31 (fun _ _ _ _ _ _ us hl => match us, hl with | [_, _], _ => rfl) (fun kV doc pm an cdv ct q hq => (nomatch (show q ∈ ([] : List (Nat × List Str × List Nat)) from hq))) (fun z => by cases z)
  have K32 : DefK K mg kw 32 d_mended := defK_mk (d := d_mended) X G a32 l32 cc32 k32 (fun _ _ _ _ _ _ us hl => match us, hl with | [_, _], _ => rfl) (fun kV doc pm an cdv ct q hq => by
      have hq' : q ∈ [((0, [PySem.Str.ofString "road", PySem.Str.ofString "book"], [1, 0]) : Nat × List Str × List Nat)] := hq
      simp only [List.mem_cons, List.not_mem_nil, or_false] at hq'
      subst hq'
      · exact ⟨fun us ws h1 h2 => match us, ws, h1, h2 with | [], [_, _], _, _ => rfl, by decide⟩) (fun z => by cases z)
  have K33 : DefK K mg kw 33 d__law_bag := defK_mk (d := d__law_bag) X G a33 l33 cc33 k33 (fun _ _ _ _ _ _ us hl => match us, hl with | [_], _ => rfl) (fun kV doc pm an cdv ct q hq => (nomatch (show q ∈ ([] : List (Nat × List Str × List Nat)) from hq))) (fun z => by cases z)
  have K34 : DefK K mg kw 34 d__law_draw := defK_mk (d := d__law_draw) X G a34 l34 cc34 k34 (fun _ _ _ _ _ _ us hl => match us, hl with | [_, _], _ => rfl) (fun kV doc pm an cdv ct q hq => (nomatch (show q ∈ ([] : List (Nat × List Str × List Nat)) from hq))) (fun z => by cases z)
  have K35 : DefK K mg kw 35 d__law_pick := defK_mk (d := d__law_pick) X G a35 l35 cc35 k35 (fun _ _ _ _ _ _ us hl => match us, hl with | [_, _], _ => rfl) (fun kV doc pm an cdv ct q hq => (nomatch (show q ∈ ([] : List (Nat × List Str × List Nat)) from hq))) (fun z => by cases z)
  have K36 : DefK K mg kw 36 d__law_same := defK_mk (d := d__law_same) X G a36 l36 cc36 k36 (fun _ _ _ _ _ _ us hl => match us, hl with | [_, _], _ => rfl) (fun kV doc pm an cdv ct q hq => (nomatch (show q ∈ ([] : List (Nat × List Str × List Nat)) from hq))) (fun z => by cases z)
  have K37 : DefK K mg kw 37 d__law_gcd := defK_mk (d := d__law_gcd) X G a37 l37 cc37 k37 (fun _ _ _ _ _ _ us hl => match us, hl with | [_, _], _ => rfl) (fun kV doc pm an cdv ct q hq => (nomatch (show q ∈ ([] : List (Nat × List Str × List Nat)) from hq))) (fun z => by cases z)
  have K38 : DefK K mg kw 38 d__law_fr := defK_mk (d := d__law_fr) X G a38 l38 cc38 k38 (fun _ _ _ _ _ _ us hl => match us, hl with | [_, _], _ => rfl) (fun kV doc pm an cdv ct q hq => (nomatch (show q ∈ ([] : List (Nat × List Str × List Nat)) from hq))) (fun z => by cases z)
  have K39 : DefK K mg kw 39 d__law_times := defK_mk (d := d__law_times) X G a39 l39 cc39 k39 (fun _ _ _ _ _ _ us hl => match us, hl with | [_, _], _ => rfl) (fun kV doc pm an cdv ct q hq => (nomatch (show q ∈ ([] : List (Nat × List Str × List Nat)) from hq))) (fun z => by cases z)
  have K40 : DefK K mg kw 40 d__law_more := defK_mk (d := d__law_more) X G a40 l40 cc40 k40 (fun _ _ _ _ _ _ us hl => match us, hl with | [_, _], _ => rfl) (fun kV doc pm an cdv ct q hq => (nomatch (show q ∈ ([] : List (Nat × List Str × List Nat)) from hq))) (fun z => by cases z)
  have K41 : DefK K mg kw 41 d__law_up := defK_mk (d := d__law_up) X G a41 l41 cc41 k41 (fun _ _ _ _ _ _ us hl => match us, hl with | [_], _ => rfl) (fun kV doc pm an cdv ct q hq => (nomatch (show q ∈ ([] : List (Nat × List Str × List Nat)) from hq))) (fun z => by cases z)
  have K42 : DefK K mg kw 42 d__law_road := defK_mk (d := d__law_road) X G a42 l42 cc42 k42 (fun _ _ _ _ _ _ us hl => match us, hl with | [_, _, _], _ => rfl) (fun kV doc pm an cdv ct q hq => (nomatch (show q ∈ ([] : List (Nat × List Str × List Nat)) from hq))) (fun z => by cases z)
  have K43 : DefK K mg kw 43 d__law_book := defK_mk (d := d__law_book) X G a43 l43 cc43 k43 (fun _ _ _ _ _ _ us hl => match us, hl with | [_, _, _], _ => rfl) (fun kV doc pm an cdv ct q hq => (nomatch (show q ∈ ([] : List (Nat × List Str × List Nat)) from hq))) (fun z => by cases z)
  have K44 : DefK K mg kw 44 d__law_s := defK_mk (d := d__law_s) X G a44 l44 cc44 k44 (fun _ _ _ _ _ _ us hl => match us, hl with | [_, _, _], _ => rfl) (fun kV doc pm an cdv ct q hq => (nomatch (show q ∈ ([] : List (Nat × List Str × List Nat)) from hq))) (fun z => by cases z)
  have K45 : DefK K mg kw 45 d__law_fault := defK_mk (d := d__law_fault) X G a45 l45 cc45 k45 (fun _ _ _ _ _ _ us hl => match us, hl with | [_, _], _ => rfl) (fun kV doc pm an cdv ct q hq => (nomatch (show q ∈ ([] : List (Nat × List Str × List Nat)) from hq))) (fun z => by cases z)
  have K46 : DefK K mg kw 46 d__law_made_sure := defK_mk (d := d__law_made_sure) X G a46 l46 cc46 k46 (fun _ _ _ _ _ _ us hl => match us, hl with | [_, _], _ => rfl) (fun kV doc pm an cdv ct q hq => (nomatch (show q ∈ ([] : List (Nat × List Str × List Nat)) from hq))) (fun z => by cases z)
  have K47 : DefK K mg kw 47 d__law_some_road := defK_mk (d := d__law_some_road) X G a47 l47 cc47 k47 (fun _ _ _ _ _ _ us hl => match us, hl with | [_], _ => rfl) (fun kV doc pm an cdv ct q hq => (nomatch (show q ∈ ([] : List (Nat × List Str × List Nat)) from hq))) (fun z => by cases z)
  have K48 : DefK K mg kw 48 d__law_theta_will_do := defK_mk (d := d__law_theta_will_do) X G a48 l48 cc48 k48 (fun _ _ _ _ _ _ us hl => match us, hl with | [_, _, _, _], _ => rfl) (fun kV doc pm an cdv ct q hq => (nomatch (show q ∈ ([] : List (Nat × List Str × List Nat)) from hq))) (fun z => by cases z)
  have K49 : DefK K mg kw 49 d__law_mended := defK_mk (d := d__law_mended) X G a49 l49 cc49 k49 (fun _ _ _ _ _ _ us hl => match us, hl with | [_, _], _ => rfl) (fun kV doc pm an cdv ct q hq => (nomatch (show q ∈ ([] : List (Nat × List Str × List Nat)) from hq))) (fun z => by cases z)
  have K50 : DefK K mg kw 50 d__law_less := defK_mk (d := d__law_less) X G a50 l50 cc50 k50 (fun _ _ _ _ _ _ us hl => match us, hl with | [_, _], _ => rfl) (fun kV doc pm an cdv ct q hq => (nomatch (show q ∈ ([] : List (Nat × List Str × List Nat)) from hq))) (fun z => by cases z)
  have K51 : DefK K mg kw 51 d_law := defK_mk (d := d_law) X G a51 l51 cc51 k51 (fun _ _ _ _ _ _ us hl => match us, hl with | [_], _ => rfl) (fun kV doc pm an cdv ct q hq => (nomatch (show q ∈ ([] : List (Nat × List Str × List Nat)) from hq))) (fun z => by cases z)
  have hk : ∀ (f : Nat) (d : Def), T[f]? = some d → DefK K mg kw f d := kall_get (⟨K0, ⟨K1, ⟨K2, ⟨K3, ⟨K4, ⟨K5, ⟨K6, ⟨K7, ⟨K8, ⟨K9, ⟨K10, ⟨K11, ⟨K12, ⟨K13, ⟨K14, ⟨K15, ⟨K16, ⟨K17, ⟨K18, ⟨K19, ⟨K20, ⟨K21, ⟨K22, ⟨K23, ⟨K24, ⟨K25, ⟨K26, ⟨K27, ⟨K28, ⟨K29, ⟨K30, ⟨K31, ⟨K32, ⟨K33, ⟨K34, ⟨K35, ⟨K36, ⟨K37, ⟨K38, ⟨K39, ⟨K40, ⟨K41, ⟨K42, ⟨K43, ⟨K44, ⟨K45, ⟨K46, ⟨K47, ⟨K48, ⟨K49, ⟨K50, ⟨K51, True.intro⟩⟩⟩⟩⟩⟩⟩⟩⟩⟩⟩⟩⟩⟩⟩⟩⟩⟩⟩⟩⟩⟩⟩⟩⟩⟩⟩⟩⟩⟩⟩⟩⟩⟩⟩⟩⟩⟩⟩⟩⟩⟩⟩⟩⟩⟩⟩⟩⟩⟩⟩⟩)
  have hb : ∀ x, bl.contains x = true → mg x = none := fun x hx => by
    have hx' : x ∈ bl := by simpa using hx
    simp only [bl, List.mem_cons, List.not_mem_nil, or_false] at hx'
    rcases hx' with rfl | rfl | rfl | rfl | rfl | rfl | rfl | rfl | rfl | rfl
    · exact PySem.W.mg_none_of X G z0
    · exact PySem.W.mg_none_of X G z1
    · exact PySem.W.mg_none_of X G z2
    · exact PySem.W.mg_none_of X G z3
    · exact PySem.W.mg_none_of X G z4
    · exact PySem.W.mg_none_of X G z5
    · exact PySem.W.mg_none_of X G z6
    · exact PySem.W.mg_none_of X G z7
    · exact PySem.W.mg_none_of X G z8
    · exact PySem.W.mg_none_of X G z9
  have hco : ∀ x k, (x, k) ∈ co → ConOk K mg x k := fun x k hx => by
    simp only [co, List.mem_cons, List.not_mem_nil, or_false, Prod.mk.injEq] at hx
    rcases hx with ⟨rfl, rfl⟩ | ⟨rfl, rfl⟩ | ⟨rfl, rfl⟩
    · exact con_int (PySem.W.mg_of X G q0)
    · exact con_int (PySem.W.mg_of X G q1)
    · exact con_int (PySem.W.mg_of X G q2)
  have F := fun_mk (st := topS 61) l51 cc51 k51
  have hT : ∀ p ∈ Tabs.cs, (h.get? p.2 = some { cls := .none, data := .fields #[] } ∧ PySem.W.CodeHd h p.1 p.2) ∧ K.lookup p.2 = none := fun p hp => by
    have hp' : p ∈ [(c24, P24), (c25, P25)] := hp
    simp only [List.mem_cons, List.not_mem_nil, or_false] at hp'
    rcases hp' with rfl | rfl
    · exact ⟨tab_of X hTab r24 (PySem.W.mg_of X G a24) l24 rfl m24 p24, n24⟩
    · exact ⟨tab_of X hTab r25 (PySem.W.mg_of X G a25) l25 rfl m25 p25, n25⟩
  exact law_at (i := i_law) (d := d_law) hs hk hb hco rfl rfl (PySem.W.mg_of X G a51) F (fun s v => .of_eq rfl) hT fun ns hl => LW.main ns hl
end LW
open PySem PySem.W PyProof.Rows
set_option maxHeartbeats 0 in
theorem PySem.Challenge.cw_surecrossing_k65_whole_mended_holds : PySem.Challenge.rw_surecrossing_k65_whole_mended.Holds := by
  w_on; o_law; k_head; (case hw => w_witness2)
  k_fill
  refine GX.walk_ofAll (l := PySem.Challenge.rw_surecrossing_k65_whole_mended) (n := 63) (k := 8 * LW.LV) (x := "script") (CX := fun _ => L2.CX0) rfl (by decide) rfl ⟨rfl, by decide, by decide⟩ (fun w h Y => PySem.W.kIn_of Y) ?F (fun _ _ _ _ _ h => h)
  case F =>
    intro w mg fa h Y KX G hmg hTab
    refine' LW.all_mk KX G hmg hTab ?a0 ?l0 ?k0 ?cc0 ?a1 ?l1 ?k1 ?cc1 ?a2 ?l2 ?k2 ?cc2 ?a3 ?l3 ?k3 ?cc3 ?a4 ?l4 ?k4 ?cc4 ?a5 ?l5 ?k5 ?cc5 ?a6 ?l6 ?k6 ?cc6 ?a7 ?l7 ?k7 ?cc7 ?a8 ?l8 ?k8 ?cc8 ?a9 ?l9 ?k9 ?cc9 ?a10 ?l10 ?k10 ?cc10 ?a11 ?l11 ?k11 ?cc11 ?a12 ?l12 ?k12 ?cc12 ?a13 ?l13 ?k13 ?cc13 ?a14 ?l14 ?k14 ?cc14 ?a15 ?l15 ?k15 ?cc15 ?a16 ?l16 ?k16 ?cc16 ?a17 ?l17 ?k17 ?cc17 ?a18 ?l18 ?k18 ?cc18 ?a19 ?l19 ?k19 ?cc19 ?a20 ?l20 ?k20 ?cc20 ?a21 ?l21 ?k21 ?cc21 ?a22 ?l22 ?k22 ?cc22 ?a23 ?l23 ?k23 ?cc23 ?a24 ?l24 ?k24 ?cc24 ?m24 ?p24 ?n24 ?r24 ?a25 ?l25 ?k25 ?cc25 ?m25 ?p25 ?n25 ?r25 ?a26 ?l26 ?k26 ?cc26 ?a27 ?l27 ?k27 ?cc27 ?a28 ?l28 ?k28 ?cc28 ?a29 ?l29 ?k29 ?cc29 ?a30 ?l30 ?k30 ?cc30 ?a31 ?l31 ?k31 ?cc31 ?a32 ?l32 ?k32 ?cc32 ?a33 ?l33 ?k33 ?cc33 ?a34 ?l34 ?k34 ?cc34 ?a35 ?l35 ?k35 ?cc35 ?a36 ?l36 ?k36 ?cc36 ?a37 ?l37 ?k37 ?cc37 ?a38 ?l38 ?k38 ?cc38 ?a39 ?l39 ?k39 ?cc39 ?a40 ?l40 ?k40 ?cc40 ?a41 ?l41 ?k41 ?cc41 ?a42 ?l42 ?k42 ?cc42 ?a43 ?l43 ?k43 ?cc43 ?a44 ?l44 ?k44 ?cc44 ?a45 ?l45 ?k45 ?cc45 ?a46 ?l46 ?k46 ?cc46 ?a47 ?l47 ?k47 ?cc47 ?a48 ?l48 ?k48 ?cc48 ?a49 ?l49 ?k49 ?cc49 ?a50 ?l50 ?k50 ?cc50 ?a51 ?l51 ?k51 ?cc51 ?z0 ?z1 ?z2 ?z3 ?z4 ?z5 ?z6 ?z7 ?z8 ?z9 ?q0 ?q1 ?q2
    (case a0 => k_is); (case l0 => k_is); (case k0 => k_is); (case cc0 => k_is); (case a1 => k_is); (case l1 => k_is); (case k1 => k_is); (case cc1 => k_is); (case a2 => k_is); (case l2 => k_is); (case k2 => k_is); (case cc2 => k_is); (case a3 => k_is); (case l3 => k_is); (case k3 => k_is); (case cc3 => k_is); (case a4 => k_is); (case l4 => k_is); (case k4 => k_is); (case cc4 => k_is); (case a5 => k_is); (case l5 => k_is); (case k5 => k_is); (case cc5 => k_is); (case a6 => k_is); (case l6 => k_is); (case k6 => k_is); (case cc6 => k_is); (case a7 => k_is); (case l7 => k_is); (case k7 => k_is); (case cc7 => k_is); (case a8 => k_is); (case l8 => k_is); (case k8 => k_is); (case cc8 => k_is); (case a9 => k_is); (case l9 => k_is); (case k9 => k_is); (case cc9 => k_is); (case a10 => k_is); (case l10 => k_is); (case k10 => k_is); (case cc10 => k_is); (case a11 => k_is); (case l11 => k_is); (case k11 => k_is); (case cc11 => k_is); (case a12 => k_is); (case l12 => k_is); (case k12 => k_is); (case cc12 => k_is); (case a13 => k_is); (case l13 => k_is); (case k13 => k_is); (case cc13 => k_is); (case a14 => k_is); (case l14 => k_is); (case k14 => k_is); (case cc14 => k_is); (case a15 => k_is); (case l15 => k_is); (case k15 => k_is); (case cc15 => k_is); (case a16 => k_is); (case l16 => k_is); (case k16 => k_is); (case cc16 => k_is); (case a17 => k_is); (case l17 => k_is); (case k17 => k_is); (case cc17 => k_is); (case a18 => k_is); (case l18 => k_is); (case k18 => k_is); (case cc18 => k_is); (case a19 => k_is); (case l19 => k_is); (case k19 => k_is); (case cc19 => k_is); (case a20 => k_is); (case l20 => k_is); (case k20 => k_is); (case cc20 => k_is); (case a21 => k_is); (case l21 => k_is); (case k21 => k_is); (case cc21 => k_is); (case a22 => k_is); (case l22 => k_is); (case k22 => k_is); (case cc22 => k_is); (case a23 => k_is); (case l23 => k_is); (case k23 => k_is); (case cc23 => k_is); (case a24 => k_is); (case l24 => k_is); (case k24 => k_is); (case cc24 => k_is); (case m24 => k_is); (case p24 => with_unfolding_all rfl); (case n24 => with_unfolding_all rfl); (case r24 => with_unfolding_all rfl); (case a25 => k_is); (case l25 => k_is); (case k25 => k_is); (case cc25 => k_is); (case m25 => k_is); (case p25 => with_unfolding_all rfl); (case n25 => with_unfolding_all rfl); (case r25 => with_unfolding_all rfl); (case a26 => k_is); (case l26 => k_is); (case k26 => k_is); (case cc26 => k_is); (case a27 => k_is); (case l27 => k_is); (case k27 => k_is); (case cc27 => k_is); (case a28 => k_is); (case l28 => k_is); (case k28 => k_is); (case cc28 => k_is); (case a29 => k_is); (case l29 => k_is); (case k29 => k_is); (case cc29 => k_is); (case a30 => k_is); (case l30 => k_is); (case k30 => k_is); (case cc30 => k_is); (case a31 => k_is); (case l31 => k_is); (case k31 => k_is); (case cc31 => k_is); (case a32 => k_is); (case l32 => k_is); (case k32 => k_is); (case cc32 => k_is); (case a33 => k_is); (case l33 => k_is); (case k33 => k_is); (case cc33 => k_is); (case a34 => k_is); (case l34 => k_is); (case k34 => k_is); (case cc34 => k_is); (case a35 => k_is); (case l35 => k_is); (case k35 => k_is); (case cc35 => k_is); (case a36 => k_is); (case l36 => k_is); (case k36 => k_is); (case cc36 => k_is); (case a37 => k_is); (case l37 => k_is); (case k37 => k_is); (case cc37 => k_is); (case a38 => k_is); (case l38 => k_is); (case k38 => k_is); (case cc38 => k_is); (case a39 => k_is); (case l39 => k_is); (case k39 => k_is); (case cc39 => k_is); (case a40 => k_is); (case l40 => k_is); (case k40 => k_is); (case cc40 => k_is); (case a41 => k_is); (case l41 => k_is); (case k41 => k_is); (case cc41 => k_is); (case a42 => k_is); (case l42 => k_is); (case k42 => k_is); (case cc42 => k_is); (case a43 => k_is); (case l43 => k_is); (case k43 => k_is); (case cc43 => k_is); (case a44 => k_is); (case l44 => k_is); (case k44 => k_is); (case cc44 => k_is); (case a45 => k_is); (case l45 => k_is); (case k45 => k_is); (case cc45 => k_is); (case a46 => k_is); (case l46 => k_is); (case k46 => k_is); (case cc46 => k_is); (case a47 => k_is); (case l47 => k_is); (case k47 => k_is); (case cc47 => k_is); (case a48 => k_is); (case l48 => k_is); (case k48 => k_is); (case cc48 => k_is); (case a49 => k_is); (case l49 => k_is); (case k49 => k_is); (case cc49 => k_is); (case a50 => k_is); (case l50 => k_is); (case k50 => k_is); (case cc50 => k_is); (case a51 => k_is); (case l51 => k_is); (case k51 => k_is); (case cc51 => k_is); (case z0 => k_is); (case z1 => k_is); (case z2 => k_is); (case z3 => k_is); (case z4 => k_is); (case z5 => k_is); (case z6 => k_is); (case z7 => k_is); (case z8 => k_is); (case z9 => k_is); (case q0 => k_is); (case q1 => k_is); (case q2 => k_is)
