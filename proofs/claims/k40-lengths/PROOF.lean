import PyProof.Rows.All
import PySem.Challenge.RW_surecrossing_k40_lengths
import HandS.ForMost
import HandS.Flow
import HandS.Wide
import HandS.TupAny
import HandS.TupMul
import HandS.IsInst
import HandS.NoneIn
import HandS.Style
set_option Elab.async false
set_option linter.all false
set_option maxRecDepth 100000
set_option maxHeartbeats 8000000
namespace SX
open PySem PySem.Spec PyProof.Rows L2

/-! ### data, the store, results -/
inductive D where
  | non | bl (b : Bool) | int (i : Int) | str (x : Str) | tup (ds : List D) | rls (ds : List D) | loc (l : Nat)
inductive SO where
  | lst (ds : List D)
abbrev Store := List SO
abbrev Env := List (Option D)
inductive Res (α : Type) where
  | ok (a : α) (S : Store)
  | bad
def Res.bnd {α β : Type} (r : Res α) (k : α → Store → Res β) : Res β := match r with
  | .ok a S => k a S
  | .bad => .bad
@[simp] theorem bnd_ok {α β : Type} (a : α) (S : Store) (k : α → Store → Res β) : (Res.ok a S).bnd k = k a S := rfl
@[simp] theorem bnd_bad {α β : Type} (k : α → Store → Res β) : (Res.bad : Res α).bnd k = .bad := rfl
theorem bnd_eq_ok {α β : Type} {r : Res α} {k : α → Store → Res β} {b : β} {S' : Store} (h : r.bnd k = .ok b S') : ∃ a S, r = .ok a S ∧ k a S = .ok b S' := by
  cases r with
  | ok a S => exact ⟨a, S, rfl, h⟩
  | bad => cases h

inductive Flow where
  | next | ret (d : D) | brk | cont

/-! ### the language -/
inductive BO where | add | sub | mul | fdiv | mod | pow deriving DecidableEq
inductive CO where | lt | le | gt | ge | eq | ne | isN | notN deriving DecidableEq
inductive Pr where | abs | int | len | max | min | tuple | list | any deriving DecidableEq
inductive Ty where | bool | int | str | tuple | list deriving DecidableEq
inductive Mt where | append | pop | reverse deriving DecidableEq
mutual
inductive E where
  | var (i : Nat)
  | cint (i : Int) | cbl (b : Bool) | cnon | cstr (x : Str)
  | tup (es : Es) | lst (es : Es)
  | bin (op : BO) (a b : E)
  | neg (a : E) | not (a : E)
  | and (es : Es) | or (es : Es)
  | cmp (op : CO) (a b : E)
  | ite (c a b : E)
  | idx (a b : E)
  | slc (a : E) (lo hi : E)
  | absent
  | call (f : Nat) (es : Es)
  | callk (f : Nat) (es ks : Es) (perm : List Nat)
  | prim (p : Pr) (es : Es)
  | isin (t : Ty) (a : E)
  | meth (m : Mt) (o : E) (es : Es)
  | lc (elt : E) (t : Tg) (it : It) (cs : Es) (own : List Nat)
inductive Es where
  | nil | cons (e : E) (es : Es)
inductive It where
  | seq (e : E) | range1 (e : E) | range2 (a b : E)
inductive Tg where
  | nm (i : Nat) | tp (ts : Tgs)
inductive Tgs where
  | nil | cons (t : Tg) (ts : Tgs)
end
mutual
inductive St where
  | asg (t : Tg) (e : E)
  | par (is : List Nat) (es : Es)
  | setS (o i v : E)
  | aug (i : Nat) (op : BO) (e : E)
  | expr (e : E)
  | ret (e : E) | retN
  | ite (c : E) (a b : Ss)
  | wh (c : E) (b : Ss)
  | fo (t : Tg) (it : It) (b : Ss)
  | brk | cont | pass
inductive Ss where
  | nil | cons (s : St) (ss : Ss)
end
def Es.len : Es → Nat
  | .nil => 0
  | .cons _ es => es.len + 1

/-! ### values' operations -/
noncomputable section
open Classical

def LINE : Nat := 16777216
def truD (d : D) (S : Store) : Option Bool := match d with
  | .non => some false
  | .bl b => some b
  | .int i => some (i != 0)
  | .str x => if x.length ≤ LINE then some ((x.length : Int) != 0) else none
  | .tup ds => some (!ds.isEmpty)
  | .rls ds => some (!ds.isEmpty)
  | .loc l => match S[l]? with
    | some (.lst ds) => some (!ds.isEmpty)
    | none => none
def new (S : Store) (o : SO) : Res D := .ok (.loc S.length) (S ++ [o])

def binD (op : BO) (a b : D) (S : Store) : Res D := match op, a, b with
  | .add, .int i, .int j => .ok (.int (i + j)) S
  | .add, .tup xs, .tup ys => if xs.length + ys.length ≤ LINE then .ok (.tup (xs ++ ys)) S else .bad
  | .add, .str x, .str y => if x.length + y.length ≤ LINE then .ok (.str (x ++ y)) S else .bad
  | .add, .loc l, .loc m => match S[l]?, S[m]? with
    | some (.lst xs), some (.lst ys) => if xs.length + ys.length ≤ LINE then new S (.lst (xs ++ ys)) else .bad
    | _, _ => .bad
  | .sub, .int i, .int j => .ok (.int (i - j)) S
  | .mul, .int i, .int j => if CMulW i j ∨ CMul i j then .ok (.int (i * j)) S else .bad
  | .mul, .tup xs, .int k => if xs ≠ [] ∧ 1 ≤ k ∧ k ≤ 1000 ∧ xs.length ≤ 1000 then .ok (.tup (List.replicate k.toNat xs).flatten) S else .bad
  | .fdiv, .int i, .int j => if CDivW i j then .ok (.int (i / j)) S else .bad
  | .mod, .int i, .int j => if 0 < j then .ok (.int (i % j)) S else .bad
  | .pow, .int i, .int j => if CPow i j then .ok (.int (i ^ j.toNat)) S else .bad
  | _, _, _ => .bad

def scalD : D → D → Option Bool
  | .non, .non => some true | .non, .int _ => some false | .int _, .non => some false | .non, .bl _ => some false | .bl _, .non => some false
  | .non, .str _ => some false | .str _, .non => some false
  | .int i, .int j => some (decide (i = j)) | .bl i, .bl j => some (decide (i = j)) | .str i, .str j => some (decide (i = j))
  | .int _, .str _ => some false | .str _, .int _ => some false | .bl _, .str _ => some false | .str _, .bl _ => some false
  | _, _ => none
mutual
/-- plain data (as the library's) -/
def pyD : D → Option PyData
  | .non => some .none
  | .bl b => some (.bool b)
  | .int i => some (.int i)
  | .str x => some (.str x)
  | .tup ds => (pyDs ds).map .tuple
  | .rls ds => (pyDs ds).map .list
  | .loc _ => none
def pyDs : List D → Option (List PyData)
  | [] => some []
  | d :: ds => match pyD d, pyDs ds with
    | some x, some xs => some (x :: xs)
    | _, _ => none
end
/-- a list of plain data, or plain data -/
def pyT (d : D) (S : Store) : Option PyData := match d with
  | .loc l => match S[l]? with
    | some (.lst ds) => (pyDs ds).map .list
    | none => none
  | d => pyD d
def eqD (a b : D) (S : Store) : Option Bool := match scalD a b with
  | some r => some r
  | none => match pyT a S, pyT b S with
    | some x, some y => if SeqAt.shaped x = true ∧ SeqAt.shaped y = true then some (PyData.eqv x y) else none
    | _, _ => none
def isNonD : D → Bool
  | .non => true
  | _ => false
def cmpD (op : CO) (a b : D) (S : Store) : Option Bool := match op, a, b with
  | .lt, .int i, .int j => some (decide (i < j))
  | .le, .int i, .int j => some (decide (i ≤ j))
  | .gt, .int i, .int j => some (decide (j < i))
  | .ge, .int i, .int j => some (decide (j ≤ i))
  | .eq, a, b => eqD a b S
  | .ne, a, b => (eqD a b S).map (!·)
  | .isN, a, .non => some (isNonD a)
  | .notN, a, .non => some (!isNonD a)
  | _, _, _ => none
def ofB (o : Option Bool) (S : Store) : Res D := match o with
  | some b => .ok (.bl b) S
  | none => .bad
def seqD (d : D) (S : Store) : Option (List D) := match d with
  | .tup ds => some ds
  | .rls ds => some ds
  | .loc l => match S[l]? with
    | some (.lst ds) => some ds
    | none => none
  | _ => none
def okV (o : Option D) (S : Store) : Res D := match o with
  | some d => .ok d S
  | none => .bad
def idxD (a b : D) (S : Store) : Res D := match seqD a S, b with
  | some ds, .int i => okV (atI ds i) S
  | _, _ => .bad
def cutD (xs : List D) (lo hi : Option Int) : List D := (xs.drop (HT.sIx xs.length 0 lo)).take (HT.sIx xs.length xs.length hi - HT.sIx xs.length 0 lo)
def slcD (a : D) (lo hi : Option Int) (S : Store) : Res D := match a with
  | .tup ds => .ok (.tup (cutD ds lo hi)) S
  | .rls ds => new S (.lst (cutD ds lo hi))
  | .loc l => match S[l]? with
    | some (.lst ds) => new S (.lst (cutD ds lo hi))
    | none => .bad
  | _ => .bad
def allBl : List D → Option (List Bool)
  | [] => some []
  | .bl b :: ds => (allBl ds).map (b :: ·)
  | _ => none
def pAbs (ds : List D) (S : Store) : Res D := match ds with
  | [.int i] => .ok (.int (if i < 0 then -i else i)) S
  | _ => .bad
def pInt (ds : List D) (S : Store) : Res D := match ds with
  | [.int i] => .ok (.int i) S
  | [.bl b] => .ok (.int (if b then 1 else 0)) S
  | _ => .bad
def pLen (ds : List D) (S : Store) : Res D := match ds with
  | [.str x] => if x.length ≤ LINE then .ok (.int x.length) S else .bad
  | [d] => match seqD d S with
    | some ds => .ok (.int ds.length) S
    | none => .bad
  | _ => .bad
def pMax (ds : List D) (S : Store) : Res D := match ds with
  | [.int i, .int j] => .ok (.int (if j > i then j else i)) S
  | _ => .bad
def pMin (ds : List D) (S : Store) : Res D := match ds with
  | [.int i, .int j] => .ok (.int (if j < i then j else i)) S
  | _ => .bad
def pTuple (ds : List D) (S : Store) : Res D := match ds with
  | [.tup ds] => .ok (.tup ds) S
  | [d] => match seqD d S with
    | some ds => .ok (.tup ds) S
    | none => .bad
  | _ => .bad
def pList (ds : List D) (S : Store) : Res D := match ds with
  | [d] => match seqD d S with
    | some ds => new S (.lst ds)
    | none => .bad
  | _ => .bad
def pAny (ds : List D) (S : Store) : Res D := match ds with
  | [.loc l] => match S[l]? with
    | some (.lst ds) => ofB ((allBl ds).map (·.any id)) S
    | none => .bad
  | _ => .bad
def primD (p : Pr) (ds : List D) (S : Store) : Res D := match p with
  | .abs => pAbs ds S
  | .int => pInt ds S
  | .len => pLen ds S
  | .max => pMax ds S
  | .min => pMin ds S
  | .tuple => pTuple ds S
  | .list => pList ds S
  | .any => pAny ds S
inductive Kd where | non | bl | int | str | tup | lst deriving DecidableEq
def kdD : D → Kd
  | .non => .non | .bl _ => .bl | .int _ => .int | .str _ => .str | .tup _ => .tup | .rls _ => .lst | .loc _ => .lst
def isK (t : Ty) (k : Kd) : Bool := match t, k with
  | .bool, .bl => true
  | .int, .bl => true
  | .int, .int => true
  | .str, .str => true
  | .tuple, .tup => true
  | .list, .lst => true
  | _, _ => false
def isD (t : Ty) (d : D) : Option Bool := some (isK t (kdD d))
def mApp (o : D) (ds : List D) (S : Store) : Res D := match o, ds with
  | .loc l, [d] => match S[l]? with
    | some (.lst xs) => if xs.length < LINE then .ok .non (S.set l (.lst (xs ++ [d]))) else .bad
    | none => .bad
  | _, _ => .bad
def mPop (o : D) (ds : List D) (S : Store) : Res D := match o, ds with
  | .loc l, [] => match S[l]? with
    | some (.lst xs) => match xs[xs.length - 1]? with
      | some d => .ok d (S.set l (.lst xs.dropLast))
      | none => .bad
    | none => .bad
  | .loc l, [.int i] => match S[l]? with
    | some (.lst xs) => match ixN xs.length i with
      | some k => match xs[k]? with
        | some d => .ok d (S.set l (.lst (xs.eraseIdx k)))
        | none => .bad
      | none => .bad
    | none => .bad
  | _, _ => .bad
def mRev (o : D) (ds : List D) (S : Store) : Res D := match o, ds with
  | .loc l, [] => match S[l]? with
    | some (.lst xs) => .ok .non (S.set l (.lst xs.reverse))
    | none => .bad
  | _, _ => .bad
def methD (m : Mt) (o : D) (ds : List D) (S : Store) : Res D := match m with
  | .append => mApp o ds S
  | .pop => mPop o ds S
  | .reverse => mRev o ds S
/-- the receiver, ahead of the arguments -/
def recvOk (m : Mt) (o : D) (S : Store) : Bool := match o with
  | .loc l => match S[l]? with
    | some (.lst _) => true
    | none => false
  | _ => false
def setD (o i v : D) (S : Store) : Res Unit := match o, i with
  | .loc l, .int k => match S[l]? with
    | some (.lst xs) => match ixN xs.length k with
      | some j => .ok () (S.set l (.lst (xs.set j v)))
      | none => .bad
    | none => .bad
  | _, _ => .bad

structure R62 (n : Int) : Prop where
  lo : -(2 ^ 62) ≤ n
  hi : n < 2 ^ 62
/-! ### targets -/
mutual
def asgT : Tg → D → Store → Env → Option Env
  | .nm i, d, _, env => some (env.set i (some d))
  | .tp ts, d, S, env => match d with
    | .tup ds => asgTs ts ds S env
    | _ => none
def asgTs : Tgs → List D → Store → Env → Option Env
  | .nil, [], _, env => some env
  | .cons t ts, d :: ds, S, env => match asgT t d S env with
    | some env1 => asgTs ts ds S env1
    | none => none
  | _, _, _, _ => none
end
def wipeE (env : Env) : List Nat → Env
  | [] => env
  | v :: vs => (wipeE env vs).set v none
def setAll (env : Env) : List Nat → List D → Option Env
  | [], [] => some env
  | i :: is, d :: ds => setAll (env.set i (some d)) is ds
  | _, _ => none

/-! ### loops -/
/-- what is walked: the items; the list at l must stay as it is -/
structure Walk where
  items : List D
  guard : Option Nat
def Walk.here (w : Walk) (S : Store) : Prop := match w.guard with
  | none => True
  | some l => S[l]? = some (.lst w.items)
def forL (w : Walk) (t : Tg) (body : Env → Store → Res (Flow × Env)) : List D → Env → Store → Res (Flow × Env)
  | [], env, S => if w.here S then .ok (.next, env) S else .bad
  | d :: ds, env, S => if w.here S then
      match asgT t d S env with
      | some env1 => (body env1 S).bnd fun r S1 => match r.1 with
        | .next => forL w t body ds r.2 S1
        | .cont => forL w t body ds r.2 S1
        | .brk => .ok (.next, r.2) S1
        | .ret d => .ok (.ret d, r.2) S1
      | none => .bad
    else .bad
def lcL (w : Walk) (t : Tg) (env : Env) (own : List Nat) (tst : Env → Store → Res Bool) (elt : Env → Store → Res D) : List D → List D → Store → Res (List D)
  | [], acc, S => if w.here S then .ok acc S else .bad
  | d :: ds, acc, S => if w.here S then
      match asgT t d S (wipeE env own) with
      | some env1 => (tst env1 S).bnd fun b S1 =>
        if b = true then (elt env1 S1).bnd fun x S2 => if acc.length < LINE then lcL w t env own tst elt ds (acc ++ [x]) S2 else .bad
        else lcL w t env own tst elt ds acc S1
      | none => .bad
    else .bad
def whN (c : Env → Store → Res Bool) (body : Env → Store → Res (Flow × Env)) : Nat → Env → Store → Res (Flow × Env)
  | 0, _, _ => .bad
  | n + 1, env, S => (c env S).bnd fun b S1 =>
      if b = true then (body env S1).bnd fun r S2 => match r.1 with
        | .next => whN c body n r.2 S2
        | .cont => whN c body n r.2 S2
        | .brk => .ok (.next, r.2) S2
        | .ret d => .ok (.ret d, r.2) S2
      else .ok (.next, env) S1
def whL (c : Env → Store → Res Bool) (body : Env → Store → Res (Flow × Env)) (env : Env) (S : Store) : Res (Flow × Env) :=
  if h : ∃ n, whN c body n env S ≠ .bad then whN c body (choose h) env S else .bad

/-! ### evaluation -/
abbrev Fns := Nat → List D → Store → Res D
def truR (r : Res D) : Res Bool := r.bnd fun d S => match truD d S with
  | some b => .ok b S
  | none => .bad
def optI (r : Res D) : Res (Option Int) := r.bnd fun d S => match d with
  | .int i => .ok (some i) S
  | _ => .bad
def isAbs : E → Bool
  | .absent => true
  | _ => false
def permD (perm : List Nat) (ds : List D) : List D := perm.filterMap fun i => ds[i]?
mutual
def evE (F : Fns) : E → Env → Store → Res D
  | .var i, env, S => match env[i]? with
    | some (some d) => .ok d S
    | _ => .bad
  | .cint i, _, S => .ok (.int i) S
  | .cbl b, _, S => .ok (.bl b) S
  | .cnon, _, S => .ok .non S
  | .cstr x, _, S => .ok (.str x) S
  | .tup es, env, S => (evEs F es env S).bnd fun ds S1 => if ds.length ≤ LINE then .ok (.tup ds) S1 else .bad
  | .lst es, env, S => (evEs F es env S).bnd fun ds S1 => if ds.length ≤ LINE then new S1 (.lst ds) else .bad
  | .bin op a b, env, S => (evE F a env S).bnd fun x S1 => (evE F b env S1).bnd fun y S2 => binD op x y S2
  | .neg a, env, S => (evE F a env S).bnd fun x S1 => match x with
    | .int i => .ok (.int (-i)) S1
    | _ => .bad
  | .not a, env, S => (truR (evE F a env S)).bnd fun b S1 => .ok (.bl (!b)) S1
  | .and es, env, S => evAnd F es env S
  | .or es, env, S => evOr F es env S
  | .cmp op a b, env, S => (evE F a env S).bnd fun x S1 => (evE F b env S1).bnd fun y S2 => ofB (cmpD op x y S2) S2
  | .ite c a b, env, S => (truR (evE F c env S)).bnd fun k S1 => if k = true then evE F a env S1 else evE F b env S1
  | .idx a b, env, S => (evE F a env S).bnd fun x S1 => (evE F b env S1).bnd fun y S2 => idxD x y S2
  | .slc a lo hi, env, S => (evE F a env S).bnd fun x S1 =>
      (if isAbs lo = true then .ok none S1 else optI (evE F lo env S1)).bnd fun l S2 =>
      (if isAbs hi = true then .ok none S2 else optI (evE F hi env S2)).bnd fun h S3 => slcD x l h S3
  | .absent, _, _ => .bad
  | .call f es, env, S => (evEs F es env S).bnd fun ds S1 => F f ds S1
  | .callk f es ks perm, env, S => (evEs F es env S).bnd fun ds S1 => (evEs F ks env S1).bnd fun zs S2 => F f (permD perm (ds ++ zs)) S2
  | .prim p es, env, S => (evEs F es env S).bnd fun ds S1 => primD p ds S1
  | .isin t a, env, S => (evE F a env S).bnd fun x S1 => ofB (isD t x) S1
  | .meth m o es, env, S => (evE F o env S).bnd fun x S1 => if recvOk m x S1 = true then (evEs F es env S1).bnd fun ds S2 => methD m x ds S2 else .bad
  | .lc elt t it cs own, env, S => (evIt F it env S).bnd fun w S1 =>
      (lcL w t env own (fun e s => evTs F cs e s) (fun e s => evE F elt e s) w.items [] S1).bnd fun ds S2 => new S2 (.lst ds)
def evEs (F : Fns) : Es → Env → Store → Res (List D)
  | .nil, _, S => .ok [] S
  | .cons e es, env, S => (evE F e env S).bnd fun d S1 => (evEs F es env S1).bnd fun ds S2 => .ok (d :: ds) S2
def evAnd (F : Fns) : Es → Env → Store → Res D
  | .nil, _, _ => .bad
  | .cons e .nil, env, S => evE F e env S
  | .cons e es, env, S => (evE F e env S).bnd fun d S1 => match truD d S1 with
    | some true => evAnd F es env S1
    | some false => .ok d S1
    | none => .bad
def evOr (F : Fns) : Es → Env → Store → Res D
  | .nil, _, _ => .bad
  | .cons e .nil, env, S => evE F e env S
  | .cons e es, env, S => (evE F e env S).bnd fun d S1 => match truD d S1 with
    | some false => evOr F es env S1
    | some true => .ok d S1
    | none => .bad
/-- a comprehension's tests: none, or one -/
def evTs (F : Fns) : Es → Env → Store → Res Bool
  | .nil, _, S => .ok true S
  | .cons e _, env, S => truR (evE F e env S)
def evIt (F : Fns) : It → Env → Store → Res Walk
  | .seq e, env, S => (evE F e env S).bnd fun d S1 => match d with
    | .tup ds => .ok ⟨ds, none⟩ S1
    | .rls ds => .ok ⟨ds, none⟩ S1
    | .loc l => match S1[l]? with
      | some (.lst ds) => .ok ⟨ds, some l⟩ S1
      | none => .bad
    | _ => .bad
  | .range1 e, env, S => (evE F e env S).bnd fun d S1 => match d with
    | .int n => if R62 n then .ok ⟨(List.range n.toNat).map fun (k : Nat) => .int (0 + (k : Int)), none⟩ S1 else .bad
    | _ => .bad
  | .range2 a b, env, S => (evE F a env S).bnd fun x S1 => (evE F b env S1).bnd fun y S2 => match x, y with
    | .int i, .int j => if R62 i ∧ R62 j then .ok ⟨(List.range (j - i).toNat).map fun (k : Nat) => .int (i + (k : Int)), none⟩ S2 else .bad
    | _, _ => .bad
end
def augD (op : BO) (x y : D) : Option D := match op, x, y with
  | .add, .int a, .int b => some (.int (a + b))
  | .sub, .int a, .int b => some (.int (a - b))
  | _, _, _ => none
mutual
def exS (F : Fns) : St → Env → Store → Res (Flow × Env)
  | .asg t e, env, S => (evE F e env S).bnd fun d S1 => match asgT t d S1 env with
    | some env1 => .ok (.next, env1) S1
    | none => .bad
  | .par is es, env, S => (evEs F es env S).bnd fun ds S1 => match setAll env is ds with
    | some env1 => .ok (.next, env1) S1
    | none => .bad
  | .setS o i v, env, S => (evE F v env S).bnd fun x S1 => (evE F o env S1).bnd fun y S2 => (evE F i env S2).bnd fun z S3 => (setD y z x S3).bnd fun _ S4 => .ok (.next, env) S4
  | .aug i op e, env, S => match env[i]? with
    | some (some x) => (evE F e env S).bnd fun y S1 => match augD op x y with
      | some z => .ok (.next, env.set i (some z)) S1
      | none => .bad
    | _ => .bad
  | .expr e, env, S => (evE F e env S).bnd fun _ S1 => .ok (.next, env) S1
  | .ret e, env, S => (evE F e env S).bnd fun d S1 => .ok (.ret d, env) S1
  | .retN, env, S => .ok (.ret .non, env) S
  | .ite c a b, env, S => (truR (evE F c env S)).bnd fun k S1 => if k = true then exSs F a env S1 else exSs F b env S1
  | .wh c b, env, S => whL (fun e s => truR (evE F c e s)) (fun e s => exSs F b e s) env S
  | .fo t it b, env, S => (evIt F it env S).bnd fun w S1 => forL w t (fun e s => exSs F b e s) w.items env S1
  | .brk, env, S => .ok (.brk, env) S
  | .cont, env, S => .ok (.cont, env) S
  | .pass, env, S => .ok (.next, env) S
def exSs (F : Fns) : Ss → Env → Store → Res (Flow × Env)
  | .nil, env, S => .ok (.next, env) S
  | .cons s ss, env, S => (exS F s env S).bnd fun r S1 => match r.1 with
    | .next => exSs F ss r.2 S1
    | f => .ok (f, r.2) S1
end

/-! ### defs -/
structure Fd where
  np : Nat
  ns : Nat
  body : Ss
  pure : Bool
mutual
def clD (n : Nat) : D → Bool
  | .loc l => decide (l < n)
  | .tup ds => clDs n ds
  | .rls ds => clDs n ds
  | _ => true
def clDs (n : Nat) : List D → Bool
  | [] => true
  | d :: ds => clD n d && clDs n ds
end
def clO (n : Nat) : SO → Bool
  | .lst ds => clDs n ds
/-- what is younger than n may be forgotten -/
def Cuts (S S1 : Store) : Prop := S.length ≤ S1.length ∧ ∀ j, j < S.length → S1[j]? = S[j]? ∨ ∃ o, S1[j]? = some o ∧ clO S.length o = true
def endF (fd : Fd) (S : Store) (r : Res (Flow × Env)) : Res D := r.bnd fun r S1 =>
  match r.1 with
  | .ret d => if fd.pure = true then (if Cuts S S1 ∧ clD S.length d = true then .ok d (S1.take S.length) else .bad) else .ok d S1
  | .next => if fd.pure = true then (if Cuts S S1 then .ok .non (S1.take S.length) else .bad) else .ok .non S1
  | _ => .bad
abbrev Prg := Nat → Option Fd
def callN (P : Prg) : Nat → Fns
  | 0, _, _, _ => .bad
  | n + 1, f, ds, S => match P f with
    | none => .bad
    | some fd => if ds.length = fd.np ∧ fd.np ≤ fd.ns then endF fd S (exSs (callN P n) fd.body (ds.map some ++ List.replicate (fd.ns - fd.np) none) S) else .bad
end
end SX
namespace SX
open PySem PySem.Spec PyProof.Rows L2
noncomputable section
open Classical

theorem line_eq : LINE = sizeLine := by rw [sizeLine_eq]; rfl

/-! ### data in the heap -/
def RoL (K : PySem.W.Frag) (H : Hp) (a : Addr) (xs : List V) : Prop :=
  (∃ o, H a = some (.frz o (.lst xs))) ∨
    ∃ (o : Obj) (its : Array Value) (n : Nat), K.lookup a = some o ∧ o.cls = .type "list" ∧ o.dict = none ∧ o.data = .seq its n ∧ its.size ≤ sizeLine ∧ Vals xs its.toList
theorem RoL.seq {K : PySem.W.Frag} {H : Hp} {a : Addr} {xs : List V} (h : RoL K H a xs) : SqL K H a xs := by
  rcases h with h | h
  · exact .inl (.inr h)
  · exact .inr h
mutual
def Rep (K : PySem.W.Frag) (ι : List Addr) (H : Hp) : D → V → Prop
  | .non, v => v = .non
  | .bl b, v => v = .bl b
  | .int i, v => v = .int i
  | .str x, v => v = .str x
  | .tup ds, v => ∃ a xs, v = .ref a ∧ SqT K H a xs ∧ Reps K ι H ds xs
  | .rls ds, v => ∃ a xs, v = .ref a ∧ RoL K H a xs ∧ Reps K ι H ds xs
  | .loc l, v => ∃ a, v = .ref a ∧ ι[l]? = some a
def Reps (K : PySem.W.Frag) (ι : List Addr) (H : Hp) : List D → List V → Prop
  | [], vs => vs = []
  | d :: ds, vs => ∃ v r, vs = v :: r ∧ Rep K ι H d v ∧ Reps K ι H ds r
end
def RepO (K : PySem.W.Frag) (ι : List Addr) (H : Hp) (a : Addr) : SO → Prop
  | .lst ds => ∃ xs, H a = some (.lst xs) ∧ Reps K ι H ds xs
structure SR (K : PySem.W.Frag) (ι : List Addr) (S : Store) (H : Hp) : Prop where
  nd : ι.Nodup
  len : ι.length = S.length
  at_ : ∀ (l : Nat) (o : SO) (a : Addr), S[l]? = some o → ι[l]? = some a → RepO K ι H a o
def REnv (K : PySem.W.Frag) (ι : List Addr) (H : Hp) (env : Env) (σ : L2.St) : Prop :=
  env.length = σ.length ∧ ∀ (i : Nat) (d : D), env[i]? = some (some d) → ∃ v, σ[i]? = some (some v) ∧ Rep K ι H d v
structure Mono (ι : List Addr) (H : Hp) (ι' : List Addr) (H' : Hp) : Prop where
  pre : ∃ t, ι' = ι ++ t
  tup : ∀ a xs, H a = some (.tup xs) → H' a = some (.tup xs)
  frz : ∀ a o u, H a = some (.frz o u) → H' a = some (.frz o u)
structure Step (ι : List Addr) (H : Hp) (ι' : List Addr) (H' : Hp) : Prop extends Mono ι H ι' H' where
  keep : ∀ a o, H a = some o → a ∉ ι → H' a = some o
  new : ∀ a, a ∈ ι' → a ∉ ι → H a = none

section
variable {K : PySem.W.Frag} {ι ι' ι'' : List Addr} {H H' H'' : Hp}
theorem Step.refl : Step ι H ι H := ⟨⟨⟨[], by simp⟩, fun _ _ h => h, fun _ _ _ h => h⟩, fun _ _ h _ => h, fun _ h n => absurd h n⟩
theorem Step.trans (a : Step ι H ι' H') (b : Step ι' H' ι'' H'') : Step ι H ι'' H'' where
  pre := by
    obtain ⟨t, e⟩ := a.pre
    obtain ⟨u, f⟩ := b.pre
    exact ⟨t ++ u, by rw [f, e, List.append_assoc]⟩
  tup := fun c xs h => b.tup c xs (a.tup c xs h)
  frz := fun c o u h => b.frz c o u (a.frz c o u h)
  keep := fun c o h n => by
    refine b.keep c o (a.keep c o h n) fun z => ?_
    have q := a.new c z n
    rw [h] at q
    cases q
  new := fun c h n => by
    by_cases hc : c ∈ ι'
    · exact a.new c hc n
    · have q := b.new c h hc
      cases e : H c with
      | none => rfl
      | some o =>
        rw [a.keep c o e n] at q
        cases q
theorem Mono.get (s : Mono ι H ι' H') {l : Nat} {a : Addr} (h : ι[l]? = some a) : ι'[l]? = some a := by
  obtain ⟨t, e⟩ := s.pre
  rw [e, List.getElem?_append_left (List.getElem?_eq_some_iff.mp h).1]
  exact h
theorem Mono.sqT (s : Mono ι H ι' H') {a : Addr} {xs : List V} (h : SqT K H a xs) : SqT K H' a xs := by
  rcases h with (h | ⟨o, h⟩) | h
  · exact .inl (.inl (s.tup _ _ h))
  · exact .inl (.inr ⟨o, s.frz _ _ _ h⟩)
  · exact .inr h
theorem Mono.roL (s : Mono ι H ι' H') {a : Addr} {xs : List V} (h : RoL K H a xs) : RoL K H' a xs := by
  rcases h with ⟨o, h⟩ | h
  · exact .inl ⟨o, s.frz _ _ _ h⟩
  · exact .inr h
mutual
theorem Rep.mono (s : Mono ι H ι' H') : ∀ (d : D) (v : V), Rep K ι H d v → Rep K ι' H' d v
  | .non, v, h => by unfold Rep at h ⊢; exact h
  | .bl b, v, h => by unfold Rep at h ⊢; exact h
  | .int i, v, h => by unfold Rep at h ⊢; exact h
  | .str x, v, h => by unfold Rep at h ⊢; exact h
  | .tup ds, v, h => by
    unfold Rep at h ⊢
    obtain ⟨a, xs, e, q, r⟩ := h
    exact ⟨a, xs, e, s.sqT q, Reps.mono s ds xs r⟩
  | .rls ds, v, h => by
    unfold Rep at h ⊢
    obtain ⟨a, xs, e, q, r⟩ := h
    exact ⟨a, xs, e, s.roL q, Reps.mono s ds xs r⟩
  | .loc l, v, h => by
    unfold Rep at h ⊢
    obtain ⟨a, e, q⟩ := h
    exact ⟨a, e, s.get q⟩
theorem Reps.mono (s : Mono ι H ι' H') : ∀ (ds : List D) (vs : List V), Reps K ι H ds vs → Reps K ι' H' ds vs
  | [], vs, h => by unfold Reps at h ⊢; exact h
  | d :: ds, vs, h => by
    unfold Reps at h ⊢
    obtain ⟨v, r, e, h1, h2⟩ := h
    exact ⟨v, r, e, Rep.mono s d v h1, Reps.mono s ds r h2⟩
end
theorem Rep.step (s : Step ι H ι' H') (d : D) (v : V) (h : Rep K ι H d v) : Rep K ι' H' d v := Rep.mono s.toMono d v h
theorem Reps.step (s : Step ι H ι' H') (ds : List D) (vs : List V) (h : Reps K ι H ds vs) : Reps K ι' H' ds vs := Reps.mono s.toMono ds vs h
theorem REnv.step (s : Step ι H ι' H') {env : Env} {σ : L2.St} (h : REnv K ι H env σ) : REnv K ι' H' env σ :=
  ⟨h.1, fun i d e => let ⟨v, e1, r⟩ := h.2 i d e; ⟨v, e1, Rep.step s d v r⟩⟩
theorem REnv.set {env : Env} {σ : L2.St} (h : REnv K ι H env σ) {i : Nat} {d : D} {v : V} (r : Rep K ι H d v) : REnv K ι H (env.set i (some d)) (σ.set i (some v)) := by
  refine ⟨by rw [List.length_set, List.length_set]; exact h.1, fun j e hj => ?_⟩
  by_cases hij : i = j
  · subst hij
    by_cases hl : i < env.length
    · rw [List.getElem?_set_self hl] at hj
      have e1 : d = e := Option.some.inj (Option.some.inj hj)
      subst e1
      exact ⟨v, by rw [List.getElem?_set_self (by rw [← h.1]; exact hl)], r⟩
    · rw [List.getElem?_eq_none (by rw [List.length_set]; omega)] at hj
      cases hj
  · rw [List.getElem?_set_ne hij] at hj
    obtain ⟨w, e1, r1⟩ := h.2 j e hj
    exact ⟨w, by rw [List.getElem?_set_ne hij]; exact e1, r1⟩
theorem REnv.wiped {env : Env} {σ : L2.St} (h : REnv K ι H env σ) : ∀ (vs : List Nat), REnv K ι H (wipeE env vs) (L2.wipe σ vs)
  | [] => h
  | v :: vs => by
    have ih := REnv.wiped h vs
    unfold wipeE L2.wipe
    refine ⟨by rw [List.length_set, List.length_set]; exact ih.1, fun j e hj => ?_⟩
    by_cases hij : v = j
    · subst hij
      by_cases hl : v < (wipeE env vs).length
      · rw [List.getElem?_set_self hl] at hj
        cases hj
      · rw [List.getElem?_eq_none (by rw [List.length_set]; omega)] at hj
        cases hj
    · rw [List.getElem?_set_ne hij] at hj ⊢
      exact ih.2 j e hj

/-! ### lists of data -/
theorem Reps.len : ∀ {ds : List D} {vs : List V}, Reps K ι H ds vs → ds.length = vs.length
  | [], vs, h => by unfold Reps at h; rw [h]; rfl
  | d :: ds, vs, h => by
    unfold Reps at h
    obtain ⟨v, r, e, h1, h2⟩ := h
    rw [e, List.length_cons, List.length_cons, Reps.len h2]
theorem Reps.cons {d : D} {ds : List D} {v : V} {vs : List V} (h1 : Rep K ι H d v) (h2 : Reps K ι H ds vs) : Reps K ι H (d :: ds) (v :: vs) := by
  unfold Reps
  exact ⟨v, vs, rfl, h1, h2⟩
theorem Reps.nil : Reps K ι H [] [] := by unfold Reps; rfl
theorem Reps.uncons {d : D} {ds : List D} {vs : List V} (h : Reps K ι H (d :: ds) vs) : ∃ v r, vs = v :: r ∧ Rep K ι H d v ∧ Reps K ι H ds r := by
  unfold Reps at h
  exact h
theorem Reps.unnil {vs : List V} (h : Reps K ι H [] vs) : vs = [] := by
  unfold Reps at h
  exact h
theorem Reps.get : ∀ {ds : List D} {vs : List V} {i : Nat} {d : D}, Reps K ι H ds vs → ds[i]? = some d → ∃ v, vs[i]? = some v ∧ Rep K ι H d v
  | [], _, _, _, _, e => by simp at e
  | d :: ds, vs, 0, x, h, e => by
    obtain ⟨v, r, e1, h1, _⟩ := h.uncons
    rw [e1]
    have e2 : d = x := Option.some.inj e
    rw [← e2]
    exact ⟨v, rfl, h1⟩
  | d :: ds, vs, i + 1, x, h, e => by
    obtain ⟨v, r, e1, _, h2⟩ := h.uncons
    rw [e1]
    exact Reps.get (i := i) h2 e
theorem Reps.append : ∀ {ds es : List D} {vs ws : List V}, Reps K ι H ds vs → Reps K ι H es ws → Reps K ι H (ds ++ es) (vs ++ ws)
  | [], _, _, _, h, h2 => by rw [h.unnil]; exact h2
  | d :: ds, _, _, _, h, h2 => by
    obtain ⟨v, r, e1, h1, h3⟩ := h.uncons
    rw [e1]
    exact Reps.cons h1 (Reps.append h3 h2)
theorem Reps.take : ∀ (n : Nat) {ds : List D} {vs : List V}, Reps K ι H ds vs → Reps K ι H (ds.take n) (vs.take n)
  | 0, _, _, _ => Reps.nil
  | n + 1, [], _, h => by rw [h.unnil]; exact Reps.nil
  | n + 1, d :: ds, _, h => by
    obtain ⟨v, r, e1, h1, h3⟩ := h.uncons
    rw [e1]
    exact Reps.cons h1 (Reps.take n h3)
theorem Reps.drop : ∀ (n : Nat) {ds : List D} {vs : List V}, Reps K ι H ds vs → Reps K ι H (ds.drop n) (vs.drop n)
  | 0, _, _, h => h
  | n + 1, [], _, h => by rw [h.unnil]; exact Reps.nil
  | n + 1, d :: ds, _, h => by
    obtain ⟨v, r, e1, h1, h3⟩ := h.uncons
    rw [e1]
    exact Reps.drop n h3
theorem Reps.set {d : D} {v : V} (q : Rep K ι H d v) : ∀ (n : Nat) {ds : List D} {vs : List V}, Reps K ι H ds vs → Reps K ι H (ds.set n d) (vs.set n v)
  | n, [], _, h => by rw [h.unnil]; exact Reps.nil
  | 0, e :: ds, _, h => by
    obtain ⟨w, r, e1, h1, h3⟩ := h.uncons
    rw [e1]
    exact Reps.cons q h3
  | n + 1, e :: ds, _, h => by
    obtain ⟨w, r, e1, h1, h3⟩ := h.uncons
    rw [e1]
    exact Reps.cons h1 (Reps.set q n h3)
theorem Reps.eraseIdx : ∀ (n : Nat) {ds : List D} {vs : List V}, Reps K ι H ds vs → Reps K ι H (ds.eraseIdx n) (vs.eraseIdx n)
  | n, [], _, h => by rw [h.unnil]; exact Reps.nil
  | 0, e :: ds, _, h => by
    obtain ⟨w, r, e1, h1, h3⟩ := h.uncons
    rw [e1]
    exact h3
  | n + 1, e :: ds, _, h => by
    obtain ⟨w, r, e1, h1, h3⟩ := h.uncons
    rw [e1]
    exact Reps.cons h1 (Reps.eraseIdx n h3)
theorem Reps.dropLast {ds : List D} {vs : List V} (h : Reps K ι H ds vs) : Reps K ι H ds.dropLast vs.dropLast := by
  rw [List.dropLast_eq_take, List.dropLast_eq_take, h.len]
  exact h.take _
theorem Reps.reverse : ∀ {ds : List D} {vs : List V}, Reps K ι H ds vs → Reps K ι H ds.reverse vs.reverse
  | [], _, h => by rw [h.unnil]; exact Reps.nil
  | d :: ds, _, h => by
    obtain ⟨v, r, e1, h1, h3⟩ := h.uncons
    rw [e1, List.reverse_cons, List.reverse_cons]
    exact Reps.append (Reps.reverse h3) (Reps.cons h1 Reps.nil)
theorem Reps.rep {ds : List D} {vs : List V} (h : Reps K ι H ds vs) : ∀ k : Nat, Reps K ι H (List.replicate k ds).flatten (List.replicate k vs).flatten
  | 0 => Reps.nil
  | k + 1 => by
    rw [List.replicate_succ, List.replicate_succ, List.flatten_cons, List.flatten_cons]
    exact h.append (h.rep k)
theorem Reps.cut {ds : List D} {vs : List V} (h : Reps K ι H ds vs) (lo hi : Option Int) : Reps K ι H (cutD ds lo hi) (cutV vs lo hi) := by
  unfold cutD cutV
  rw [h.len]
  exact (h.drop _).take _
theorem Reps.atI {ds : List D} {vs : List V} {i : Int} {d : D} (h : Reps K ι H ds vs) (e : L2.atI ds i = some d) : ∃ v, L2.atI vs i = some v ∧ Rep K ι H d v := by
  unfold L2.atI at e ⊢
  rw [← h.len]
  cases q : ixN ds.length i with
  | none => rw [q] at e; cases e
  | some j =>
    rw [q] at e
    exact h.get e

/-! ### the store -/
theorem SR.of {S : Store} (s : SR K ι S H) {l : Nat} {o : SO} (h : S[l]? = some o) : ∃ a, ι[l]? = some a ∧ RepO K ι H a o := by
  have hl : l < ι.length := by
    rw [s.len]
    exact (List.getElem?_eq_some_iff.mp h).1
  exact ⟨ι[l], List.getElem?_eq_getElem hl, s.at_ l o _ h (List.getElem?_eq_getElem hl)⟩
theorem SR.lst {S : Store} (s : SR K ι S H) {l : Nat} {ds : List D} (h : S[l]? = some (.lst ds)) : ∃ a xs, ι[l]? = some a ∧ H a = some (.lst xs) ∧ Reps K ι H ds xs := by
  obtain ⟨a, e, xs, q, r⟩ := s.of h
  exact ⟨a, xs, e, q, r⟩
/-- every address of the store is a list -/
theorem SR.mem {S : Store} (s : SR K ι S H) {a : Addr} (h : a ∈ ι) : ∃ xs, H a = some (.lst xs) := by
  obtain ⟨l, hl, e⟩ := List.getElem_of_mem h
  have hs : l < S.length := by rw [← s.len]; exact hl
  have q := s.at_ l _ a (List.getElem?_eq_getElem hs) (by rw [List.getElem?_eq_getElem hl, e])
  cases r : S[l] with
  | lst ds =>
    rw [r] at q
    obtain ⟨xs, e1, _⟩ := q
    exact ⟨xs, e1⟩
theorem SR.notMem {S : Store} (s : SR K ι S H) {a : Addr} (h : H a = none) : a ∉ ι := fun z => by
  obtain ⟨xs, e⟩ := s.mem z
  rw [h] at e
  cases e
theorem step_laid {p : Addr} {o : HO} (h : H p = none) : Step ι H ι (upd H p o) where
  pre := ⟨[], by simp⟩
  tup := fun a xs e => by rw [upd_ne (ne_of_none e h)]; exact e
  frz := fun a x u e => by rw [upd_ne (ne_of_none e h)]; exact e
  keep := fun a x e _ => by rw [upd_ne (ne_of_none e h)]; exact e
  new := fun a h1 h2 => absurd h1 h2
theorem RepO.step {a : Addr} {o : SO} (s : Step ι H ι' H') (k : ∀ u, H a = some u → H' a = some u) (h : RepO K ι H a o) : RepO K ι' H' a o := by
  cases o with
  | lst ds =>
    obtain ⟨xs, e, r⟩ := h
    exact ⟨xs, k _ e, Reps.step s ds xs r⟩
theorem SR.laid {S : Store} (s : SR K ι S H) {p : Addr} {o : HO} (h : H p = none) : SR K ι S (upd H p o) :=
  ⟨s.nd, s.len, fun l x a e1 e2 => RepO.step (step_laid h) (fun u e => by rw [upd_ne (ne_of_none e h)]; exact e) (s.at_ l x a e1 e2)⟩
/-- a new list -/
theorem step_new {p : Addr} {xs : List V} (h : H p = none) : Step ι H (ι ++ [p]) (upd H p (.lst xs)) where
  pre := ⟨[p], rfl⟩
  tup := fun a ys e => by rw [upd_ne (ne_of_none e h)]; exact e
  frz := fun a x u e => by rw [upd_ne (ne_of_none e h)]; exact e
  keep := fun a x e _ => by rw [upd_ne (ne_of_none e h)]; exact e
  new := fun a h1 h2 => by
    rcases List.mem_append.mp h1 with z | z
    · exact absurd z h2
    · rw [List.mem_singleton.mp z]; exact h
theorem SR.new {S : Store} (s : SR K ι S H) {p : Addr} {ds : List D} {xs : List V} (h : H p = none) (r : Reps K ι H ds xs) : SR K (ι ++ [p]) (S ++ [.lst ds]) (upd H p (.lst xs)) := by
  have np := s.notMem h
  refine ⟨?_, by rw [List.length_append, List.length_append, s.len]; rfl, fun l x a e1 e2 => ?_⟩
  · rw [List.nodup_append]
    refine ⟨s.nd, by simp, fun a ha b hb e => ?_⟩
    rw [List.mem_singleton.mp hb] at e
    exact np (e ▸ ha)
  · by_cases hl : l < S.length
    · rw [List.getElem?_append_left hl] at e1
      rw [List.getElem?_append_left (by rw [s.len]; exact hl)] at e2
      exact RepO.step (step_new h) (fun u e => by rw [upd_ne (ne_of_none e h)]; exact e) (s.at_ l x a e1 e2)
    · have hl2 : l = S.length := by
        have := (List.getElem?_eq_some_iff.mp e1).1
        rw [List.length_append] at this
        simp at this
        omega
      subst hl2
      rw [List.getElem?_append_right (Nat.le_refl _)] at e1
      rw [List.getElem?_append_right (by rw [s.len]; exact Nat.le_refl _), s.len] at e2
      simp at e1 e2
      subst e1 e2
      exact ⟨xs, upd_same, Reps.step (step_new h) ds xs r⟩
theorem new_get {S : Store} (s : SR K ι S H) (p : Addr) : (ι ++ [p])[S.length]? = some p := by
  rw [List.getElem?_append_right (by rw [s.len]; exact Nat.le_refl _), s.len]
  simp
/-- a list of the store is changed -/
theorem step_set {S : Store} (s : SR K ι S H) {a : Addr} {xs ys : List V} {l : Nat} (hl : ι[l]? = some a) (h : H a = some (.lst xs)) : Step ι H ι (upd H a (.lst ys)) where
  pre := ⟨[], by simp⟩
  tup := fun b zs e => by rw [upd_ne (ne_of e h (by intro z; cases z))]; exact e
  frz := fun b x u e => by rw [upd_ne (ne_of e h (by intro z; cases z))]; exact e
  keep := fun b x e n => by
    rw [upd_ne]
    · exact e
    · intro z
      subst z
      exact n (List.mem_of_getElem? hl)
  new := fun b h1 h2 => absurd h1 h2
theorem SR.set {S : Store} (s : SR K ι S H) {a : Addr} {xs ys : List V} {ds : List D} {l : Nat} (hl : ι[l]? = some a) (h : H a = some (.lst xs)) (r : Reps K ι H ds ys) : SR K ι (S.set l (.lst ds)) (upd H a (.lst ys)) := by
  refine ⟨s.nd, by rw [List.length_set]; exact s.len, fun j x b e1 e2 => ?_⟩
  by_cases hj : l = j
  · subst hj
    have hS : l < S.length := by rw [← s.len]; exact (List.getElem?_eq_some_iff.mp hl).1
    rw [List.getElem?_set_self hS] at e1
    rw [hl] at e2
    cases e1
    cases e2
    exact ⟨ys, upd_same, Reps.step (step_set s hl h) ds ys r⟩
  · rw [List.getElem?_set_ne hj] at e1
    have hb : b ≠ a := fun z => by
      subst z
      have h1 := List.getElem?_eq_some_iff.mp hl
      have h2 := List.getElem?_eq_some_iff.mp e2
      have pw := List.pairwise_iff_getElem.mp s.nd
      rcases Nat.lt_or_gt_of_ne hj with z | z
      · exact pw l j h1.1 h2.1 z (h1.2.trans h2.2.symm)
      · exact pw j l h2.1 h1.1 z (h2.2.trans h1.2.symm)
    exact RepO.step (step_set s hl h) (fun u e => by rw [upd_ne hb]; exact e) (s.at_ j x b e1 e2)

/-! ### closed data -/
mutual
theorem clD_of : ∀ (d : D) (v : V), Rep K ι H d v → clD ι.length d = true
  | .non, _, _ => rfl
  | .bl _, _, _ => rfl
  | .int _, _, _ => rfl
  | .str _, _, _ => rfl
  | .tup ds, v, h => by
    unfold Rep at h
    obtain ⟨a, xs, _, _, r⟩ := h
    unfold clD
    exact clDs_of ds xs r
  | .rls ds, v, h => by
    unfold Rep at h
    obtain ⟨a, xs, _, _, r⟩ := h
    unfold clD
    exact clDs_of ds xs r
  | .loc l, v, h => by
    unfold Rep at h
    obtain ⟨a, _, e⟩ := h
    unfold clD
    exact decide_eq_true (List.getElem?_eq_some_iff.mp e).1
theorem clDs_of : ∀ (ds : List D) (vs : List V), Reps K ι H ds vs → clDs ι.length ds = true
  | [], _, _ => rfl
  | d :: ds, vs, h => by
    obtain ⟨v, r, _, h1, h2⟩ := h.uncons
    unfold clDs
    rw [clD_of d v h1, clDs_of ds r h2]
    rfl
end
mutual
theorem Rep.cut {t : List Addr} : ∀ (d : D) (v : V), clD ι.length d = true → Rep K (ι ++ t) H d v → Rep K ι H d v
  | .non, v, _, h => by unfold Rep at h ⊢; exact h
  | .bl b, v, _, h => by unfold Rep at h ⊢; exact h
  | .int i, v, _, h => by unfold Rep at h ⊢; exact h
  | .str x, v, _, h => by unfold Rep at h ⊢; exact h
  | .tup ds, v, c, h => by
    unfold Rep at h ⊢
    unfold clD at c
    obtain ⟨a, xs, e, q, r⟩ := h
    exact ⟨a, xs, e, q, Reps.cutI ds xs c r⟩
  | .rls ds, v, c, h => by
    unfold Rep at h ⊢
    unfold clD at c
    obtain ⟨a, xs, e, q, r⟩ := h
    exact ⟨a, xs, e, q, Reps.cutI ds xs c r⟩
  | .loc l, v, c, h => by
    unfold Rep at h ⊢
    unfold clD at c
    obtain ⟨a, e, q⟩ := h
    rw [List.getElem?_append_left (of_decide_eq_true c)] at q
    exact ⟨a, e, q⟩
theorem Reps.cutI {t : List Addr} : ∀ (ds : List D) (vs : List V), clDs ι.length ds = true → Reps K (ι ++ t) H ds vs → Reps K ι H ds vs
  | [], vs, _, h => by rw [h.unnil]; exact Reps.nil
  | d :: ds, vs, c, h => by
    obtain ⟨v, r, e, h1, h2⟩ := h.uncons
    unfold clDs at c
    rw [Bool.and_eq_true] at c
    rw [e]
    exact Reps.cons (Rep.cut d v c.1 h1) (Reps.cutI ds r c.2 h2)
end
/-- what is younger is forgotten -/
theorem SR.back {S S' : Store} (s : SR K ι S H) (s' : SR K ι' S' H') (st : Step ι H ι' H') (e : Cuts S S') : SR K ι (S'.take S.length) H' := by
  obtain ⟨t, et⟩ := st.pre
  subst et
  obtain ⟨hle, hc⟩ := e
  refine ⟨s.nd, by rw [s.len, List.length_take]; omega, fun l x a e1 e2 => ?_⟩
  have hl : l < S.length := by
    have := (List.getElem?_eq_some_iff.mp e1).1
    rw [List.length_take] at this
    omega
  rw [List.getElem?_take_of_lt hl] at e1
  have q := s'.at_ l x a e1 (by rw [List.getElem?_append_left (by rw [s.len]; exact hl)]; exact e2)
  rcases hc l hl with h | ⟨o, h, ho⟩
  · rw [h] at e1
    have q0 := s.at_ l x a e1 e2
    cases x with
    | lst ds =>
      obtain ⟨xs, h1, h2⟩ := q
      obtain ⟨ys, h3, h4⟩ := q0
      exact ⟨xs, h1, Reps.cutI ds xs (clDs_of ds ys h4) h2⟩
  · rw [h] at e1
    cases e1
    cases x with
    | lst ds =>
      obtain ⟨xs, h1, h2⟩ := q
      exact ⟨xs, h1, Reps.cutI ds xs (by rw [s.len]; exact ho) h2⟩
theorem Step.back (st : Step ι H ι' H') : Step ι H ι H' := ⟨⟨⟨[], by simp⟩, st.tup, st.frz⟩, st.keep, fun a h n => absurd h n⟩
end
end
end SX
namespace SX
open PySem PySem.Spec PyProof.Rows L2

/-! ### t * 1 is t -/
theorem tuple_mul1 (l : Addr) (items : Array Value) (n : Nat) (dd : Option Addr) (sl : Array (Option Value)) (u : Tok) :
    Meets (Builtin.«tuple.__mul__» ⟨[.ref l, .int 1 u], []⟩) (fun _ R s => s.heap.get? l = some { cls := .type "tuple", dict := dd, data := .seq items n, slots := sl } ∧
      R (.ok (.ret (Value.ref l))) s) :=
  .of_wp fun prog w A R s h => by
    obtain ⟨hp, g, d, tk, os⟩ := s
    obtain ⟨hl, h⟩ := h
    have f1 := AutoSeq1.idx_int
    wp_walk using wpAny_loadPart' hl
    exact ⟨_, rfl, h⟩
theorem op_repT1 {X : Cx} : OpR X (binaryOp .Mult) (fun x y H Q => ∃ l xs, x = .ref l ∧ y = .int 1 ∧ SqT X.K H l xs ∧ Q (.ref l) H) := by
  intro pins s σ H x y v u Q I rx ry h
  obtain ⟨l, xs, rfl, rfl, hT, q⟩ := h
  cases rx
  obtain ⟨t, rfl⟩ := ry
  obtain ⟨its, r, ⟨⟨cls, dd, data, sl⟩, ho, hc, n, hd⟩, hs⟩ := I.tuple hT
  simp only at hc hd
  subst hc hd
  exact wpAny_binaryOp_repeat_ref (T := "tuple") (U := "int") (by decide) ⟨_, ho, rfl⟩ (fun s' => typeIs_int s' 1 t) noFill_tuple_mul F.fills_int_mul F.slot_int_rmul repeat_tuple F.slot_int_index.lookup
    (call_meets F.slot_int_rmul (typeIs_int s 1 t) F.entry_int_rmul (F.args_int_rmul_2 _ _) (int_rmul_tuple 1 t l its.toArray n dd sl)
      ⟨ho, rfl, ⟨_, ho, rfl⟩, call_meets F.slot_tuple_mul ⟨_, ho, rfl⟩ F.entry_tuple_mul (F.args_tuple_mul_2 _ _) (tuple_mul1 l its.toArray n dd sl t) ⟨ho, ⟨.ref l, H, I, rfl, q⟩⟩⟩)

noncomputable section
open Classical

/-! ### what a result is to bring about -/
def Got {α β : Type} (K : PySem.W.Frag) (ι : List Addr) (H : Hp) (r : Res α) (R : List Addr → Hp → α → β → Prop) (Q : β → Hp → Prop) : Prop :=
  ∃ a S', r = .ok a S' ∧ ∀ ι' H' b, Step ι H ι' H' → SR K ι' S' H' → R ι' H' a b → Q b H'
section
variable {K : PySem.W.Frag} {ι ι' : List Addr} {H H' : Hp} {α β γ : Type}
theorem got_step {r : Res α} {R : List Addr → Hp → α → β → Prop} {Q : β → Hp → Prop} (st : Step ι H ι' H') (g : Got K ι H r R Q) : Got K ι' H' r R Q := by
  obtain ⟨a, S', e, h⟩ := g
  exact ⟨a, S', e, fun ι2 H2 b s2 => h ι2 H2 b (st.trans s2)⟩
theorem got_bnd {r : Res γ} {k : γ → Store → Res α} {R : List Addr → Hp → α → β → Prop} {Q : β → Hp → Prop} (g : Got K ι H (r.bnd k) R Q) : ∃ c S1, r = .ok c S1 ∧ Got K ι H (k c S1) R Q := by
  obtain ⟨a, S', e, h⟩ := g
  obtain ⟨c, S1, e1, e2⟩ := bnd_eq_ok e
  exact ⟨c, S1, e1, a, S', e2, h⟩
theorem got_bad {R : List Addr → Hp → α → β → Prop} {Q : β → Hp → Prop} (g : Got K ι H (.bad : Res α) R Q) : False := by
  obtain ⟨a, S', e, _⟩ := g
  cases e
theorem got_ok {a : α} {S : Store} {R : List Addr → Hp → α → β → Prop} {Q : β → Hp → Prop} (g : Got K ι H (.ok a S) R Q) : ∀ ι' H' b, Step ι H ι' H' → SR K ι' S H' → R ι' H' a b → Q b H' := by
  obtain ⟨a', S', e, h⟩ := g
  cases e
  exact h
theorem got_ite {c : Prop} [Decidable c] {r1 r2 : Res α} {R : List Addr → Hp → α → β → Prop} {Q : β → Hp → Prop} (g : Got K ι H (if c then r1 else r2) R Q) : (c ∧ Got K ι H r1 R Q) ∨ (¬ c ∧ Got K ι H r2 R Q) := by
  by_cases h : c
  · rw [if_pos h] at g; exact .inl ⟨h, g⟩
  · rw [if_neg h] at g; exact .inr ⟨h, g⟩
/-- a scalar value -/
theorem got_val {d : D} {S : Store} {Q : VK} {v : V} (g : Got K ι H (.ok d S) (Rep K) Q) (s : SR K ι S H) (r : Rep K ι H d v) : Q v H := got_ok g ι H v Step.refl s r
theorem got_tup {ds : List D} {S : Store} {Q : VK} {xs : List V} (g : Got K ι H (.ok (.tup ds) S) (Rep K) Q) (s : SR K ι S H) (r : Reps K ι H ds xs) : ∀ p, H p = none → Q (.ref p) (upd H p (.tup xs)) := fun p hp => by
  refine got_ok g ι _ (.ref p) (step_laid hp) (s.laid hp) ?_
  unfold Rep
  exact ⟨p, xs, rfl, SqT.of upd_same, Reps.step (step_laid hp) ds xs r⟩
theorem got_new {ds : List D} {S : Store} {Q : VK} {xs : List V} (g : Got K ι H (new S (.lst ds)) (Rep K) Q) (s : SR K ι S H) (r : Reps K ι H ds xs) : ∀ p, H p = none → Q (.ref p) (upd H p (.lst xs)) := fun p hp => by
  refine got_ok g (ι ++ [p]) _ (.ref p) (step_new hp) (s.new hp r) ?_
  unfold Rep
  exact ⟨p, rfl, new_get s p⟩
theorem got_set {d : D} {ds : List D} {S : Store} {Q : VK} {xs ys : List V} {v : V} {l : Nat} {a : Addr} (g : Got K ι H (.ok d (S.set l (.lst ds))) (Rep K) Q) (s : SR K ι S H) (hl : ι[l]? = some a) (h : H a = some (.lst xs)) (r : Reps K ι H ds ys) (rv : Rep K ι H d v) :
    Q v (upd H a (.lst ys)) := got_ok g ι _ v (step_set s hl h) (s.set hl h r) (Rep.step (step_set s hl h) d v rv)
end

/-! ### reading data -/
section
variable {K : PySem.W.Frag} {ι : List Addr} {H : Hp} {S : Store}
theorem rep_int {i : Int} {v : V} (h : Rep K ι H (.int i) v) : v = .int i := by unfold Rep at h; exact h
theorem rep_bl {b : Bool} {v : V} (h : Rep K ι H (.bl b) v) : v = .bl b := by unfold Rep at h; exact h
theorem rep_str {x : Str} {v : V} (h : Rep K ι H (.str x) v) : v = .str x := by unfold Rep at h; exact h
theorem rep_non {v : V} (h : Rep K ι H .non v) : v = .non := by unfold Rep at h; exact h
theorem rep_tup {ds : List D} {v : V} (h : Rep K ι H (.tup ds) v) : ∃ a xs, v = .ref a ∧ SqT K H a xs ∧ Reps K ι H ds xs := by unfold Rep at h; exact h
theorem rep_rls {ds : List D} {v : V} (h : Rep K ι H (.rls ds) v) : ∃ a xs, v = .ref a ∧ RoL K H a xs ∧ Reps K ι H ds xs := by unfold Rep at h; exact h
theorem rep_loc {l : Nat} {v : V} (h : Rep K ι H (.loc l) v) : ∃ a, v = .ref a ∧ ι[l]? = some a := by unfold Rep at h; exact h
theorem to_int (i : Int) : Rep K ι H (.int i) (.int i) := by unfold Rep; rfl
theorem to_bl (b : Bool) : Rep K ι H (.bl b) (.bl b) := by unfold Rep; rfl
theorem to_str (x : Str) : Rep K ι H (.str x) (.str x) := by unfold Rep; rfl
theorem to_non : Rep K ι H .non .non := by unfold Rep; rfl
theorem rep_loc_lst {l : Nat} {v : V} {ds : List D} (s : SR K ι S H) (h : Rep K ι H (.loc l) v) (e : S[l]? = some (.lst ds)) : ∃ a xs, v = .ref a ∧ ι[l]? = some a ∧ H a = some (.lst xs) ∧ Reps K ι H ds xs := by
  obtain ⟨a, rfl, q⟩ := rep_loc h
  obtain ⟨b, xs, q2, h2, r⟩ := s.lst e
  rw [q] at q2
  cases q2
  exact ⟨a, xs, rfl, q, h2, r⟩
/-- a walked or indexed thing: a list or a tuple -/
theorem seq_of {d : D} {v : V} {ds : List D} (s : SR K ι S H) (h : Rep K ι H d v) (e : seqD d S = some ds) : ∃ a xs, v = .ref a ∧ Reps K ι H ds xs ∧ ((SqL K H a xs ∧ (∀ es, d ≠ .tup es)) ∨ (SqT K H a xs ∧ ∃ es, d = .tup es)) := by
  unfold seqD at e
  split at e
  · cases e
    obtain ⟨a, xs, rfl, q, r⟩ := rep_tup h
    exact ⟨a, xs, rfl, r, .inr ⟨q, _, rfl⟩⟩
  · cases e
    obtain ⟨a, xs, rfl, q, r⟩ := rep_rls h
    exact ⟨a, xs, rfl, r, .inl ⟨q.seq, fun es z => by cases z⟩⟩
  · split at e
    · rename_i e2
      cases e
      obtain ⟨a, xs, rfl, q, q2, r⟩ := rep_loc_lst s h e2
      exact ⟨a, xs, rfl, r, .inl ⟨SqL.of q2, fun es z => by cases z⟩⟩
    · cases e
  · cases e
theorem tru_of {d : D} {v : V} {b : Bool} (s : SR K ι S H) (h : Rep K ι H d v) (e : truD d S = some b) : TruV K v H b := by
  unfold truD at e
  split at e
  · cases e; rw [rep_non h]; exact rfl
  · cases e; rw [rep_bl h]; exact rfl
  · cases e; rw [rep_int h]; exact rfl
  · split at e
    · rename_i hl
      cases e
      rw [rep_str h]
      rw [line_eq] at hl
      exact ⟨hl, rfl⟩
    · cases e
  · rename_i ds
    cases e
    obtain ⟨a, xs, rfl, q, r⟩ := rep_tup h
    refine .inr (.inl ⟨xs, q, ?_⟩)
    have := r.len
    cases ds <;> cases xs <;> simp_all
  · rename_i ds
    cases e
    obtain ⟨a, xs, rfl, q, r⟩ := rep_rls h
    refine .inl ⟨xs, q.seq, ?_⟩
    have := r.len
    cases ds <;> cases xs <;> simp_all
  · split at e
    · rename_i ds e2
      cases e
      obtain ⟨a, xs, rfl, q, q2, r⟩ := rep_loc_lst s h e2
      refine .inl ⟨xs, SqL.of q2, ?_⟩
      have := r.len
      cases ds <;> cases xs <;> simp_all
    · cases e
end

/-! ### the operators -/
def boOp : BO → Operator
  | .add => .Add | .sub => .Sub | .mul => .Mult | .fdiv => .FloorDiv | .mod => .Mod | .pow => .Pow
def OpS (K : PySem.W.Frag) (f : D → D → Store → Res D) : R2 := fun x y H Q => ∃ ι S a b, SR K ι S H ∧ Rep K ι H a x ∧ Rep K ι H b y ∧ Got K ι H (f a b S) (Rep K) Q
section
variable {X : Cx}
theorem op_bin (op : BO) : OpR X (binaryOp (boOp op)) (OpS X.K (binD op)) := by
  intro pins s σ H x y v u Q I rx ry h
  obtain ⟨ι, S, a, b, sr, ra, rb, g⟩ := h
  unfold binD at g
  split at g
  · rename_i i j
    obtain rfl := rep_int ra
    obtain rfl := rep_int rb
    exact op_add pins s σ H _ _ v u Q I rx ry ⟨i, j, rfl, rfl, got_val g sr (to_int _)⟩
  · rename_i xs ys
    rcases got_ite g with ⟨hl, g⟩ | ⟨_, g⟩
    · obtain ⟨a, us, rfl, qa, r1⟩ := rep_tup ra
      obtain ⟨b, ws, rfl, qb, r2⟩ := rep_tup rb
      rw [line_eq, r1.len, r2.len] at hl
      have r3 := r1.append r2
      refine op_catA pins s σ H _ _ v u Q I rx ry ⟨a, b, us, ws, rfl, rfl, qa, qb, hl, fun e => ?_, fun _ e => ?_, fun _ _ => got_tup g sr r3⟩
      · subst e
        refine got_val g sr ?_
        unfold Rep
        exact ⟨b, ws, rfl, qb, r3⟩
      · subst e
        refine got_val g sr ?_
        unfold Rep
        rw [List.append_nil] at r3
        exact ⟨a, us, rfl, qa, r3⟩
    · exact (got_bad g).elim
  · rename_i i j
    rcases got_ite g with ⟨hl, g⟩ | ⟨_, g⟩
    · obtain rfl := rep_str ra
      obtain rfl := rep_str rb
      rw [line_eq] at hl
      exact op_add_str pins s σ H _ _ v u Q I rx ry ⟨i, j, rfl, rfl, hl, got_val g sr (to_str _)⟩
    · exact (got_bad g).elim
  · rename_i l m
    split at g
    · rename_i xs ys e1 e2
      rcases got_ite g with ⟨hl, g⟩ | ⟨_, g⟩
      · obtain ⟨a, us, rfl, _, qa, r1⟩ := rep_loc_lst sr ra e1
        obtain ⟨b, ws, rfl, _, qb, r2⟩ := rep_loc_lst sr rb e2
        rw [line_eq, r1.len, r2.len] at hl
        exact op_cat pins s σ H _ _ v u Q I rx ry ⟨a, b, us, ws, rfl, rfl, qa, qb, hl, got_new g sr (r1.append r2)⟩
      · exact (got_bad g).elim
    · exact (got_bad g).elim
  · rename_i i j
    obtain rfl := rep_int ra
    obtain rfl := rep_int rb
    exact op_sub pins s σ H _ _ v u Q I rx ry ⟨i, j, rfl, rfl, got_val g sr (to_int _)⟩
  · rename_i i j
    rcases got_ite g with ⟨hl, g⟩ | ⟨_, g⟩
    · obtain rfl := rep_int ra
      obtain rfl := rep_int rb
      rcases hl with hl | hl
      · exact op_mulW pins s σ H _ _ v u Q I rx ry ⟨i, j, rfl, rfl, hl, got_val g sr (to_int _)⟩
      · exact op_mul pins s σ H _ _ v u Q I rx ry ⟨i, j, rfl, rfl, hl, got_val g sr (to_int _)⟩
    · exact (got_bad g).elim
  · rename_i xs k
    rcases got_ite g with ⟨⟨h1, h2, h3, h4⟩, g⟩ | ⟨_, g⟩
    · obtain ⟨a, us, rfl, qa, r1⟩ := rep_tup ra
      obtain rfl := rep_int rb
      have r3 := r1.rep k.toNat
      by_cases hk : k = 1
      · subst hk
        refine op_repT1 pins s σ H _ _ v u Q I rx ry ⟨a, us, rfl, rfl, qa, got_val g sr ?_⟩
        unfold Rep
        refine ⟨a, us, rfl, qa, ?_⟩
        simpa using r1
      · refine op_repT pins s σ H _ _ v u Q I rx ry ⟨a, k, us, rfl, rfl, qa, fun e => ?_, by omega, h3, by rw [← r1.len]; exact h4, got_tup g sr r3⟩
        subst e
        exact h1 (List.eq_nil_of_length_eq_zero r1.len)
    · exact (got_bad g).elim
  · rename_i i j
    rcases got_ite g with ⟨hl, g⟩ | ⟨_, g⟩
    · obtain rfl := rep_int ra
      obtain rfl := rep_int rb
      exact op_fdivW pins s σ H _ _ v u Q I rx ry ⟨i, j, rfl, rfl, hl, got_val g sr (to_int _)⟩
    · exact (got_bad g).elim
  · rename_i i j
    rcases got_ite g with ⟨hl, g⟩ | ⟨_, g⟩
    · obtain rfl := rep_int ra
      obtain rfl := rep_int rb
      exact op_mod pins s σ H _ _ v u Q I rx ry ⟨i, j, rfl, rfl, hl, got_val g sr (to_int _)⟩
    · exact (got_bad g).elim
  · rename_i i j
    rcases got_ite g with ⟨hl, g⟩ | ⟨_, g⟩
    · obtain rfl := rep_int ra
      obtain rfl := rep_int rb
      exact op_pow pins s σ H _ _ v u Q I rx ry ⟨i, j, rfl, rfl, hl, got_val g sr (to_int _)⟩
    · exact (got_bad g).elim
  · exact (got_bad g).elim

/-! ### comparisons -/
def coOp : CO → CmpOp
  | .lt => .Lt | .le => .LtE | .gt => .Gt | .ge => .GtE | .eq => .Eq | .ne => .NotEq | .isN => .Is | .notN => .IsNot
theorem coOp_in (op : CO) : coOp op ≠ .In := by cases op <;> decide
theorem coOp_notIn (op : CO) : coOp op ≠ .NotIn := by cases op <;> decide
theorem scal_of {K : PySem.W.Frag} {ι : List Addr} {H : Hp} {a b : D} {x y : V} {r : Bool} (ra : Rep K ι H a x) (rb : Rep K ι H b y) (e : scalD a b = some r) : scal x y = true ∧ decide (x = y) = r := by
  unfold scalD at e
  split at e
  all_goals first
    | (cases e; done)
    | (obtain rfl := rep_non ra; obtain rfl := rep_non rb; cases e; exact ⟨rfl, by simp⟩)
    | (obtain rfl := rep_non ra; obtain rfl := rep_int rb; cases e; exact ⟨rfl, by simp⟩)
    | (obtain rfl := rep_int ra; obtain rfl := rep_non rb; cases e; exact ⟨rfl, by simp⟩)
    | (obtain rfl := rep_non ra; obtain rfl := rep_bl rb; cases e; exact ⟨rfl, by simp⟩)
    | (obtain rfl := rep_bl ra; obtain rfl := rep_non rb; cases e; exact ⟨rfl, by simp⟩)
    | (obtain rfl := rep_non ra; obtain rfl := rep_str rb; cases e; exact ⟨rfl, by simp⟩)
    | (obtain rfl := rep_str ra; obtain rfl := rep_non rb; cases e; exact ⟨rfl, by simp⟩)
    | (obtain rfl := rep_int ra; obtain rfl := rep_int rb; cases e; exact ⟨rfl, by simp⟩)
    | (obtain rfl := rep_bl ra; obtain rfl := rep_bl rb; cases e; exact ⟨rfl, by simp⟩)
    | (obtain rfl := rep_str ra; obtain rfl := rep_str rb; cases e; exact ⟨rfl, by simp⟩)
    | (obtain rfl := rep_int ra; obtain rfl := rep_str rb; cases e; exact ⟨rfl, by simp⟩)
    | (obtain rfl := rep_str ra; obtain rfl := rep_int rb; cases e; exact ⟨rfl, by simp⟩)
    | (obtain rfl := rep_bl ra; obtain rfl := rep_str rb; cases e; exact ⟨rfl, by simp⟩)
    | (obtain rfl := rep_str ra; obtain rfl := rep_bl rb; cases e; exact ⟨rfl, by simp⟩)
mutual
theorem dp_of {K : PySem.W.Frag} {ι : List Addr} {H : Hp} : ∀ (d : D) (v : V) (p : PyData), Rep K ι H d v → pyD d = some p → Dp K H v p
  | .non, v, p, h, e => by unfold pyD at e; cases e; rw [rep_non h]; exact .non
  | .bl b, v, p, h, e => by unfold pyD at e; cases e; rw [rep_bl h]; exact .bl b
  | .int i, v, p, h, e => by unfold pyD at e; cases e; rw [rep_int h]; exact .int i
  | .str x, v, p, h, e => by unfold pyD at e; cases e; rw [rep_str h]; exact .str x
  | .tup ds, v, p, h, e => by
    unfold pyD at e
    obtain ⟨ps, e1, rfl⟩ := Option.map_eq_some_iff.mp e
    obtain ⟨a, xs, rfl, q, r⟩ := rep_tup h
    exact .tup q (dps_of ds xs ps r e1)
  | .rls ds, v, p, h, e => by
    unfold pyD at e
    obtain ⟨ps, e1, rfl⟩ := Option.map_eq_some_iff.mp e
    obtain ⟨a, xs, rfl, q, r⟩ := rep_rls h
    exact .lst q.seq (dps_of ds xs ps r e1)
  | .loc l, v, p, h, e => by unfold pyD at e; cases e
theorem dps_of {K : PySem.W.Frag} {ι : List Addr} {H : Hp} : ∀ (ds : List D) (vs : List V) (ps : List PyData), Reps K ι H ds vs → pyDs ds = some ps → DpAll K H vs ps
  | [], vs, ps, h, e => by unfold pyDs at e; cases e; rw [h.unnil]; exact .nil
  | d :: ds, vs, ps, h, e => by
    unfold pyDs at e
    obtain ⟨v, r, rfl, h1, h2⟩ := h.uncons
    split at e
    · rename_i x xs e1 e2
      cases e
      exact .cons (dp_of d v x h1 e1) (dps_of ds r xs h2 e2)
    · cases e
end
theorem dpT_of {K : PySem.W.Frag} {ι : List Addr} {H : Hp} {S : Store} (s : SR K ι S H) {d : D} {v : V} {p : PyData} (h : Rep K ι H d v) (e : pyT d S = some p) : Dp K H v p := by
  unfold pyT at e
  split at e
  · split at e
    · rename_i e2
      obtain ⟨ps, e1, rfl⟩ := Option.map_eq_some_iff.mp e
      obtain ⟨a, xs, rfl, _, q2, r⟩ := rep_loc_lst s h e2
      exact .lst (SqL.of q2) (dps_of _ xs ps r e1)
    · cases e
  · exact dp_of d v p h e
theorem op_eqS (hu : X.A.units + 64 < cLine) : OpR X (compareOp .Eq) (OpS X.K fun a b S => ofB (eqD a b S) S) := by
  intro pins s σ H x y v u Q I rx ry h
  obtain ⟨ι, S, a, b, sr, ra, rb, g⟩ := h
  dsimp only at g
  unfold eqD at g
  split at g
  · rename_i r e
    obtain ⟨h1, h2⟩ := scal_of ra rb e
    exact op_eq pins s σ H x y v u Q I rx ry ⟨h1, by rw [h2]; exact got_val g sr (to_bl _)⟩
  · split at g
    · rename_i p q e1 e2
      by_cases hs : SeqAt.shaped p = true ∧ SeqAt.shaped q = true
      · rw [if_pos hs] at g
        exact op_eqD hu pins s σ H x y v u Q I rx ry ⟨p, q, dpT_of sr ra e1, dpT_of sr rb e2, hs.1, hs.2, got_val g sr (to_bl _)⟩
      · rw [if_neg hs] at g
        exact (got_bad g).elim
    · exact (got_bad g).elim
theorem op_neS (hu : X.A.units + 64 < cLine) : OpR X (compareOp .NotEq) (OpS X.K fun a b S => ofB ((eqD a b S).map (!·)) S) := by
  intro pins s σ H x y v u Q I rx ry h
  obtain ⟨ι, S, a, b, sr, ra, rb, g⟩ := h
  dsimp only at g
  unfold eqD at g
  split at g
  · rename_i r e
    obtain ⟨h1, h2⟩ := scal_of ra rb e
    exact op_ne pins s σ H x y v u Q I rx ry ⟨h1, by rw [h2]; exact got_val g sr (to_bl _)⟩
  · split at g
    · rename_i p q e1 e2
      by_cases hs : SeqAt.shaped p = true ∧ SeqAt.shaped q = true
      · rw [if_pos hs] at g
        exact op_neD hu pins s σ H x y v u Q I rx ry ⟨p, q, dpT_of sr ra e1, dpT_of sr rb e2, hs.1, hs.2, got_val g sr (to_bl _)⟩
      · rw [if_neg hs] at g
        exact (got_bad g).elim
    · exact (got_bad g).elim
theorem rep_isNon {K : PySem.W.Frag} {ι : List Addr} {H : Hp} {a : D} {x : V} (ra : Rep K ι H a x) : decide (x = .non) = isNonD a := by
  cases a with
  | non => cases rep_non ra; rfl
  | bl b => cases rep_bl ra; simp [isNonD]
  | int b => cases rep_int ra; simp [isNonD]
  | str b => cases rep_str ra; simp [isNonD]
  | tup b => obtain ⟨_, _, rfl, _⟩ := rep_tup ra; simp [isNonD]
  | rls b => obtain ⟨_, _, rfl, _⟩ := rep_rls ra; simp [isNonD]
  | loc b => obtain ⟨_, rfl, _⟩ := rep_loc ra; simp [isNonD]
theorem op_cmp (hu : X.A.units + 64 < cLine) (op : CO) : OpR X (compareOp (coOp op)) (OpS X.K fun a b S => ofB (cmpD op a b S) S) := by
  intro pins s σ H x y v u Q I rx ry h
  obtain ⟨ι, S, a, b, sr, ra, rb, g⟩ := h
  dsimp only at g
  unfold cmpD at g
  split at g
  · rename_i i j
    obtain rfl := rep_int ra
    obtain rfl := rep_int rb
    exact op_lt pins s σ H _ _ v u Q I rx ry ⟨i, j, rfl, rfl, got_val g sr (to_bl _)⟩
  · rename_i i j
    obtain rfl := rep_int ra
    obtain rfl := rep_int rb
    exact op_le pins s σ H _ _ v u Q I rx ry ⟨i, j, rfl, rfl, got_val g sr (to_bl _)⟩
  · rename_i i j
    obtain rfl := rep_int ra
    obtain rfl := rep_int rb
    exact op_gt pins s σ H _ _ v u Q I rx ry ⟨i, j, rfl, rfl, got_val g sr (to_bl _)⟩
  · rename_i i j
    obtain rfl := rep_int ra
    obtain rfl := rep_int rb
    exact op_ge pins s σ H _ _ v u Q I rx ry ⟨i, j, rfl, rfl, got_val g sr (to_bl _)⟩
  · exact op_eqS hu pins s σ H x y v u Q I rx ry ⟨ι, S, _, _, sr, ra, rb, g⟩
  · exact op_neS hu pins s σ H x y v u Q I rx ry ⟨ι, S, _, _, sr, ra, rb, g⟩
  · obtain rfl := rep_non rb
    exact op_isN pins s σ H x _ v u Q I rx ry ⟨rfl, by rw [rep_isNon ra]; exact got_val g sr (to_bl _)⟩
  · obtain rfl := rep_non rb
    exact op_notN pins s σ H x _ v u Q I rx ry ⟨rfl, by rw [rep_isNon ra]; exact got_val g sr (to_bl _)⟩
  · exact (got_bad g).elim
end
end
end SX
namespace SX
open PySem PySem.Spec PyProof.Rows L2
noncomputable section
open Classical
section
variable {X : Cx}

/-! ### built-in functions -/
def PrS (K : PySem.W.Frag) (p : Pr) : List V → Hp → VK → Prop := fun xs H Q => ∃ ι S ds, SR K ι S H ∧ Reps K ι H ds xs ∧ Got K ι H (primD p ds S) (Rep K) Q
theorem reps1 {K : PySem.W.Frag} {ι : List Addr} {H : Hp} {d : D} {xs : List V} (r : Reps K ι H [d] xs) : ∃ x, xs = [x] ∧ Rep K ι H d x := by
  obtain ⟨v, w, rfl, h1, h2⟩ := r.uncons
  rw [h2.unnil]
  exact ⟨v, rfl, h1⟩
theorem reps2 {K : PySem.W.Frag} {ι : List Addr} {H : Hp} {d e : D} {xs : List V} (r : Reps K ι H [d, e] xs) : ∃ x y, xs = [x, y] ∧ Rep K ι H d x ∧ Rep K ι H e y := by
  obtain ⟨v, w, rfl, h1, h2⟩ := r.uncons
  obtain ⟨y, rfl, h3⟩ := reps1 h2
  exact ⟨v, y, rfl, h1, h3⟩
theorem pr_abs : CallR X (.builtin "abs") (PrS X.K .abs) := by
  intro pins s σ H xs us Q I r h
  obtain ⟨ι, S, ds, sr, rr, g⟩ := h
  unfold primD at g
  dsimp only at g
  unfold pAbs at g
  split at g
  all_goals first | exact (got_bad g).elim | skip
  rename_i i
  obtain ⟨x, rfl, r1⟩ := reps1 rr
  obtain rfl := rep_int r1
  exact call_abs pins s σ H _ us Q I r ⟨i, rfl, got_val g sr (to_int _)⟩
theorem pr_max (hc : X.calm = true) : CallR X (.builtin "max") (PrS X.K .max) := by
  intro pins s σ H xs us Q I r h
  obtain ⟨ι, S, ds, sr, rr, g⟩ := h
  unfold primD at g
  dsimp only at g
  unfold pMax at g
  split at g
  all_goals first | exact (got_bad g).elim | skip
  rename_i i j
  obtain ⟨x, y, rfl, r1, r2⟩ := reps2 rr
  obtain rfl := rep_int r1
  obtain rfl := rep_int r2
  exact call_max2 hc pins s σ H _ us Q I r ⟨i, j, rfl, got_val g sr (to_int _)⟩
theorem pr_min (hc : X.calm = true) : CallR X (.builtin "min") (PrS X.K .min) := by
  intro pins s σ H xs us Q I r h
  obtain ⟨ι, S, ds, sr, rr, g⟩ := h
  unfold primD at g
  dsimp only at g
  unfold pMin at g
  split at g
  all_goals first | exact (got_bad g).elim | skip
  rename_i i j
  obtain ⟨x, y, rfl, r1, r2⟩ := reps2 rr
  obtain rfl := rep_int r1
  obtain rfl := rep_int r2
  exact call_min2 hc pins s σ H _ us Q I r ⟨i, j, rfl, got_val g sr (to_int _)⟩
theorem pr_int : CallR X (.type "int") (PrS X.K .int) := by
  intro pins s σ H xs us Q I r h
  obtain ⟨ι, S, ds, sr, rr, g⟩ := h
  unfold primD at g
  dsimp only at g
  unfold pInt at g
  split at g
  all_goals first | exact (got_bad g).elim | skip
  · rename_i i
    obtain ⟨x, rfl, r1⟩ := reps1 rr
    obtain rfl := rep_int r1
    exact call_int1 pins s σ H _ us Q I r (.inl ⟨i, rfl, got_val g sr (to_int _)⟩)
  · rename_i i
    obtain ⟨x, rfl, r1⟩ := reps1 rr
    obtain rfl := rep_bl r1
    exact call_int1 pins s σ H _ us Q I r (.inr ⟨i, rfl, got_val g sr (to_int _)⟩)
theorem pr_len : CallR X (.builtin "len") (PrS X.K .len) := by
  intro pins s σ H xs us Q I r h
  obtain ⟨ι, S, ds, sr, rr, g⟩ := h
  unfold primD at g
  dsimp only at g
  unfold pLen at g
  split at g
  all_goals first | exact (got_bad g).elim | skip
  · rename_i z
    rcases got_ite g with ⟨hl, g⟩ | ⟨_, g⟩
    · obtain ⟨x, rfl, r1⟩ := reps1 rr
      obtain rfl := rep_str r1
      rw [line_eq] at hl
      exact call_len_str pins s σ H _ us Q I r ⟨z, rfl, hl, got_val g sr (to_int _)⟩
    · exact (got_bad g).elim
  · rename_i d _
    split at g
    · rename_i es e
      obtain ⟨x, rfl, r1⟩ := reps1 rr
      obtain ⟨a, ys, rfl, r2, hs⟩ := seq_of sr r1 e
      have g' := got_val g sr (to_int _)
      rw [r2.len] at g'
      refine call_len_seq pins s σ H _ us Q I r ⟨a, ys, rfl, ?_, g'⟩
      rcases hs with ⟨h, _⟩ | ⟨h, _⟩
      · exact .inl h
      · exact .inr h
    · exact (got_bad g).elim
theorem rep_tupI {K : PySem.W.Frag} {ι : List Addr} {H : Hp} {ds : List D} {a : Addr} {xs : List V} (q : SqT K H a xs) (r : Reps K ι H ds xs) : Rep K ι H (.tup ds) (.ref a) := by
  unfold Rep
  exact ⟨a, xs, rfl, q, r⟩
theorem pr_tuple : CallR X (.type "tuple") (PrS X.K .tuple) := by
  intro pins s σ H xs us Q I r h
  obtain ⟨ι, S, ds, sr, rr, g⟩ := h
  unfold primD at g
  dsimp only at g
  unfold pTuple at g
  split at g
  all_goals first | exact (got_bad g).elim | skip
  · obtain ⟨x, rfl, r1⟩ := reps1 rr
    obtain ⟨a, ys, rfl, q, r2⟩ := rep_tup r1
    exact call_tuple_of pins s σ H _ us Q I r ⟨a, ys, rfl, .inr ⟨q, got_val g sr r1⟩⟩
  · rename_i d hd
    split at g
    · rename_i es e
      obtain ⟨x, rfl, r1⟩ := reps1 rr
      obtain ⟨a, ys, rfl, r2, hs⟩ := seq_of sr r1 e
      rcases hs with ⟨h, _⟩ | ⟨h, fs, rfl⟩
      · exact call_tuple_of pins s σ H _ us Q I r ⟨a, ys, rfl, .inl ⟨h, got_tup g sr r2⟩⟩
      · exact (hd fs rfl).elim
    · exact (got_bad g).elim
theorem pr_list : CallR X (.type "list") (PrS X.K .list) := by
  intro pins s σ H xs us Q I r h
  obtain ⟨ι, S, ds, sr, rr, g⟩ := h
  unfold primD at g
  dsimp only at g
  unfold pList at g
  split at g
  all_goals first | exact (got_bad g).elim | skip
  rename_i d
  split at g
  · rename_i es e
    obtain ⟨x, rfl, r1⟩ := reps1 rr
    obtain ⟨a, ys, rfl, r2, hs⟩ := seq_of sr r1 e
    refine call_list_of pins s σ H _ us Q I r ⟨a, ys, rfl, ?_, got_new g sr r2⟩
    rcases hs with ⟨h, _⟩ | ⟨h, _⟩
    · exact .inl h
    · exact .inr h
  · exact (got_bad g).elim
theorem allBl_of {K : PySem.W.Frag} {ι : List Addr} {H : Hp} : ∀ {ds : List D} {xs : List V} {bs : List Bool}, Reps K ι H ds xs → allBl ds = some bs → xs = bs.map V.bl
  | [], xs, bs, r, e => by unfold allBl at e; cases e; rw [r.unnil]; rfl
  | .bl b :: ds, xs, bs, r, e => by
    unfold allBl at e
    obtain ⟨cs, e1, rfl⟩ := Option.map_eq_some_iff.mp e
    obtain ⟨v, w, rfl, h1, h2⟩ := r.uncons
    rw [rep_bl h1, allBl_of h2 e1]
    rfl
  | .non :: ds, xs, bs, r, e => by unfold allBl at e; cases e
  | .int _ :: ds, xs, bs, r, e => by unfold allBl at e; cases e
  | .str _ :: ds, xs, bs, r, e => by unfold allBl at e; cases e
  | .tup _ :: ds, xs, bs, r, e => by unfold allBl at e; cases e
  | .rls _ :: ds, xs, bs, r, e => by unfold allBl at e; cases e
  | .loc _ :: ds, xs, bs, r, e => by unfold allBl at e; cases e
theorem pr_any (hc : X.calm = true) : CallR X (.builtin "any") (PrS X.K .any) := by
  intro pins s σ H xs us Q I r h
  obtain ⟨ι, S, ds, sr, rr, g⟩ := h
  unfold primD at g
  dsimp only at g
  unfold pAny at g
  split at g
  all_goals first | exact (got_bad g).elim | skip
  rename_i l
  split at g
  · rename_i es e
    obtain ⟨x, rfl, r1⟩ := reps1 rr
    obtain ⟨a, ys, rfl, _, q, r2⟩ := rep_loc_lst sr r1 e
    unfold ofB at g
    split at g
    · rename_i b eb
      obtain ⟨bs, e1, rfl⟩ := Option.map_eq_some_iff.mp eb
      have e2 := allBl_of r2 e1
      subst e2
      exact cr_any hc pins s σ H _ us Q I r ⟨a, bs, rfl, SqL.of q, got_val g sr (to_bl _)⟩
    · exact (got_bad g).elim
  · exact (got_bad g).elim

/-! ### isinstance -/
def tyN : Ty → String
  | .bool => "bool" | .int => "int" | .str => "str" | .tuple => "tuple" | .list => "list"
def kdN : Kd → String
  | .non => "NoneType" | .bl => "bool" | .int => "int" | .str => "str" | .tup => "tuple" | .lst => "list"
theorem ty_of {K : PySem.W.Frag} {ι : List Addr} {H : Hp} {S : Store} {d : D} {v : V} (s : SR K ι S H) (r : Rep K ι H d v) : TyX K H v (.type (kdN (kdD d))) := by
  cases d with
  | non => rw [rep_non r]; exact .base .non
  | bl b => rw [rep_bl r]; exact .base (.bl b)
  | int b => rw [rep_int r]; exact .base (.int b)
  | str b => rw [rep_str r]; exact .base (.str b)
  | tup b =>
    obtain ⟨a, xs, rfl, q, _⟩ := rep_tup r
    rcases q with (h | ⟨o, h⟩) | ⟨o, its, n, e, c, _⟩
    · exact .base (.tup h)
    · exact .fTuple h
    · exact .kTuple e c
  | rls b =>
    obtain ⟨a, xs, rfl, q, _⟩ := rep_rls r
    rcases q with ⟨o, h⟩ | ⟨o, its, n, e, c, _⟩
    · exact .base (.frz h)
    · exact .kList e c
  | loc l =>
    obtain ⟨a, rfl, e⟩ := rep_loc r
    obtain ⟨xs, h⟩ := s.mem (List.mem_of_getElem? e)
    exact .base (.lst h)
theorem kit_isK (t : Ty) (k : Kd) : kitB (kdN k) (tyN t) = some (isK t k) := by
  cases t <;> cases k <;> decide +kernel
theorem kit_is {t : Ty} {d : D} {b : Bool} (h : isD t d = some b) : kitB (kdN (kdD d)) (tyN t) = some b := by
  unfold isD at h
  rw [kit_isK]
  exact h

/-! ### methods of lists -/
def MtS (K : PySem.W.Frag) (m : Mt) : V → List V → Hp → VK → Prop := fun x xs H Q => ∃ ι S d ds, SR K ι S H ∧ Rep K ι H d x ∧ Reps K ι H ds xs ∧ Got K ι H (methD m d ds S) (Rep K) Q
theorem mt_app : MtR X "list.append" (MtS X.K .append) := by
  intro pins s σ H x xs v us Q I rx r h
  obtain ⟨ι, S, d, ds, sr, rd, rr, g⟩ := h
  unfold methD at g
  dsimp only at g
  unfold mApp at g
  split at g
  all_goals first | exact (got_bad g).elim | skip
  rename_i l e
  split at g
  · rename_i zs ez
    rcases got_ite g with ⟨hl, g⟩ | ⟨_, g⟩
    · obtain ⟨y, rfl, r1⟩ := reps1 rr
      obtain ⟨a, ys, rfl, ea, q, r2⟩ := rep_loc_lst sr rd ez
      rw [line_eq, r2.len] at hl
      exact mt_append pins s σ H _ _ v us Q I rx r ⟨a, ys, y, rfl, rfl, q, hl, got_set g sr ea q (r2.append (.cons r1 .nil)) to_non⟩
    · exact (got_bad g).elim
  · exact (got_bad g).elim
theorem mt_rev : MtR X "list.reverse" (MtS X.K .reverse) := by
  intro pins s σ H x xs v us Q I rx r h
  obtain ⟨ι, S, d, ds, sr, rd, rr, g⟩ := h
  unfold methD at g
  dsimp only at g
  unfold mRev at g
  split at g
  all_goals first | exact (got_bad g).elim | skip
  rename_i l
  split at g
  · rename_i zs ez
    obtain rfl := rr.unnil
    obtain ⟨a, ys, rfl, ea, q, r2⟩ := rep_loc_lst sr rd ez
    exact mt_reverse pins s σ H _ _ v us Q I rx r ⟨a, ys, rfl, rfl, q, got_set g sr ea q r2.reverse to_non⟩
  · exact (got_bad g).elim
theorem ixN_range {n : Nat} {i : Int} {j : Nat} (h : ixN n i = some j) (hn : n ≤ sizeLine) : -(2 ^ 63) ≤ i ∧ i < 2 ^ 63 ∧ seqIndex? i n = some j := by
  obtain ⟨h1, h2, h3, h4⟩ := ixN_seq h
  rw [sizeLine_eq] at hn
  exact ⟨by omega, by omega, h1⟩
theorem mt_popS : MtR X "list.pop" (MtS X.K .pop) := by
  intro pins s σ H x xs v us Q I rx r h
  obtain ⟨ι, S, d, ds, sr, rd, rr, g⟩ := h
  unfold methD at g
  dsimp only at g
  unfold mPop at g
  split at g
  all_goals first | exact (got_bad g).elim | skip
  · rename_i l
    split at g
    · rename_i zs ez
      split at g
      · rename_i d ed
        obtain rfl := rr.unnil
        obtain ⟨a, ys, rfl, ea, q, r2⟩ := rep_loc_lst sr rd ez
        rw [r2.len] at ed
        obtain ⟨y, ey, ry⟩ := r2.get ed
        exact mt_pop pins s σ H _ _ v us Q I rx r ⟨a, ys, y, rfl, rfl, q, ey, got_set g sr ea q r2.dropLast ry⟩
      · exact (got_bad g).elim
    · exact (got_bad g).elim
  · rename_i l i
    split at g
    · rename_i zs ez
      split at g
      · rename_i k ek
        split at g
        · rename_i d ed
          obtain ⟨y, rfl, r1⟩ := reps1 rr
          obtain rfl := rep_int r1
          obtain ⟨a, ys, rfl, ea, q, r2⟩ := rep_loc_lst sr rd ez
          obtain ⟨y, ey, ry⟩ := r2.get ed
          rw [r2.len] at ek
          obtain ⟨h1, h2, h3⟩ := ixN_range ek (I.lstM q).1
          exact mt_popAt pins s σ H _ _ v us Q I rx r ⟨a, ys, i, k, y, rfl, rfl, q, h1, h2, h3, ey, got_set g sr ea q (r2.eraseIdx k) ry⟩
        · exact (got_bad g).elim
      · exact (got_bad g).elim
    · exact (got_bad g).elim

/-! ### subscripts, slices, stores -/
theorem ix_S : IxR X (OpS X.K idxD) := by
  intro value slice pins s σ H x y v u Q I rx ry h hs
  obtain ⟨ι, S, a, b, sr, ra, rb, g⟩ := h
  unfold idxD at g
  split at g
  · rename_i ds i e
    unfold okV at g
    split at g
    · rename_i d ed
      obtain rfl := rep_int rb
      obtain ⟨p, xs, rfl, r, hh⟩ := seq_of sr ra e
      obtain ⟨w, ew, rw_⟩ := r.atI ed
      rcases hh with ⟨hL, _⟩ | ⟨hT, _⟩
      · exact ix_list value slice pins s σ H _ _ v u Q I rx ry ⟨p, xs, i, w, rfl, rfl, hL, ew, got_val g sr rw_⟩ hs
      · exact ix_tup value slice pins s σ H _ _ v u Q I rx ry ⟨p, xs, i, w, rfl, rfl, hT, ew, got_val g sr rw_⟩ hs
    · exact (got_bad g).elim
  · exact (got_bad g).elim
def SlS (K : PySem.W.Frag) : V → Option Int → Option Int → Hp → VK → Prop := fun x lo hi H Q => ∃ ι S d, SR K ι S H ∧ Rep K ι H d x ∧ Got K ι H (slcD d lo hi S) (Rep K) Q
theorem cut_whole {α : Type} {xs : List α} {a b : Nat} (h1 : a = 0) (h2 : b = xs.length) : (xs.drop a).take (b - a) = xs := by
  subst h1 h2
  simp
theorem sl_S : SlR X (SlS X.K) := by
  intro pins s σ H x v vl vu lo hi sl Q I rx hs pl pu h
  obtain ⟨ι, S, d, sr, rd, g⟩ := h
  unfold slcD at g
  split at g
  · obtain ⟨a, xs, rfl, q, r⟩ := rep_tup rd
    refine sl_tupA pins s σ H _ v vl vu lo hi sl Q I rx hs pl pu ⟨a, xs, rfl, q, fun hw => got_val g sr ?_, fun _ => got_tup g sr (r.cut lo hi)⟩
    have r2 := r.cut lo hi
    unfold cutV at r2
    rw [cut_whole hw.1 hw.2] at r2
    exact rep_tupI q r2
  · obtain ⟨a, xs, rfl, q, r⟩ := rep_rls rd
    exact sl_list pins s σ H _ v vl vu lo hi sl Q I rx hs pl pu ⟨a, xs, rfl, q.seq, got_new g sr (r.cut lo hi)⟩
  · split at g
    · rename_i ds e
      obtain ⟨a, xs, rfl, _, q, r⟩ := rep_loc_lst sr rd e
      exact sl_list pins s σ H _ v vl vu lo hi sl Q I rx hs pl pu ⟨a, xs, rfl, SqL.of q, got_new g sr (r.cut lo hi)⟩
    · exact (got_bad g).elim
  · exact (got_bad g).elim
def SetS (K : PySem.W.Frag) : TSet := fun o i v H Q => ∃ ι S a b d, SR K ι S H ∧ Rep K ι H a o ∧ Rep K ι H b i ∧ Rep K ι H d v ∧ Got K ι H (setD a b d S) (fun _ _ _ (_ : Unit) => True) (fun _ H' => Q H')
theorem set_S : PSet X (SetS X.K) := by
  intro pins s σ H o i v ov iv u Q I ro ri rv h
  obtain ⟨ι, S, a, b, d, sr, ra, rb, rd, g⟩ := h
  unfold setD at g
  split at g
  · rename_i l k
    split at g
    · rename_i ds e
      split at g
      · rename_i j ej
        obtain rfl := rep_int rb
        obtain ⟨p, xs, rfl, ea, q, r⟩ := rep_loc_lst sr ra e
        rw [r.len] at ej
        exact set_list pins s σ H _ _ v ov iv u Q I ro ri rv ⟨p, xs, k, j, rfl, rfl, q, ej, got_ok g ι _ () (step_set sr ea q) (sr.set ea q (r.set rd j)) True.intro⟩
      · exact (got_bad g).elim
    · exact (got_bad g).elim
  · exact (got_bad g).elim
end
end
end SX
namespace SX
open PySem PySem.Spec PyProof.Rows L2

/-! ### the checker -/
structure Cn where
  N : List Str
  sc : Scope
  bl : List Str
  nf : Nat
  fn : Nat → Str
  kw : List (Nat × Nat × List Str × List Nat)
def visB (sc : Scope) (x : Str) : Bool := match sc.names.lookup x with
  | some .local => true
  | some .cell => true
  | some .free => true
  | _ => false
def locB (sc : Scope) (x : Str) : Bool := match sc.names.lookup x with
  | some .local => true
  | some .cell => true
  | _ => false
def glB (sc : Scope) (x : Str) : Bool := match sc.names.lookup x with
  | some .globalImplicit => !(x == ("__debug__" : Str))
  | _ => false
def blB (c : Cn) (x : Str) : Bool := glB c.sc x && c.bl.contains x && !(x == ("__name__" : Str))
def prN : Pr → Str
  | .abs => "abs" | .int => "int" | .len => "len" | .max => "max" | .min => "min" | .tuple => "tuple" | .list => "list" | .any => "any"
def mtN : Mt → Str
  | .append => "append" | .pop => "pop" | .reverse => "reverse"
def noStar : Expr → Bool
  | .Starred _ _ => false
  | _ => true
/-- no call without arguments (it may be super()) -/
def noCall0 : Expr → Bool
  | .Call (.Name _ _) [] [] _ => false
  | _ => true
def kwNames : List Keyword → Option (List Str)
  | [] => some []
  | ⟨some n, _, _⟩ :: ks => (kwNames ks).map (n :: ·)
  | ⟨none, _, _⟩ :: _ => none
mutual
def ckT (c : Cn) : Tg → Expr → Bool
  | .nm i, ex => match ex with
    | .Name x _ => decide (c.N[i]? = some x) && locB c.sc x
    | _ => false
  | .tp ts, ex => match ex with
    | .Tuple es _ _ => ckTs c ts es
    | _ => false
def ckTs (c : Cn) : Tgs → List Expr → Bool
  | .nil, [] => true
  | .cons t ts, e :: es => ckT c t e && noStar e && ckTs c ts es
  | _, _ => false
end
mutual
def slotsT : Tg → List Nat
  | .nm i => [i]
  | .tp ts => slotsTs ts
def slotsTs : Tgs → List Nat
  | .nil => []
  | .cons t ts => slotsT t ++ slotsTs ts
end
def ownP (N : List Str) (own : List Nat) : List (Str × Nat) := own.map fun i => (N.getD i "", i)
mutual
def ckE (c : Cn) : E → Expr → Bool
  | .var i, ex => match ex with
    | .Name x _ => decide (c.N[i]? = some x) && visB c.sc x && !(x == ("__debug__" : Str)) && !(x == ("__classdict__" : Str))
    | _ => false
  | .cint i, ex => match ex with
    | .Constant (.int j) _ _ => decide (i = j)
    | _ => false
  | .cbl b, ex => match ex with
    | .Constant (.bool d) _ _ => decide (b = d)
    | _ => false
  | .cnon, ex => match ex with
    | .Constant .none _ _ => true
    | _ => false
  | .cstr x, ex => match ex with
    | .Constant (.str y) _ _ => decide (x = y)
    | _ => false
  | .tup es, ex => match ex with
    | .Tuple fs _ _ => ckEs c es fs
    | _ => false
  | .lst es, ex => match ex with
    | .List fs _ => ckEs c es fs
    | _ => false
  | .bin op a b, ex => match ex with
    | .BinOp l o r _ => decide (o = boOp op) && ckE c a l && ckE c b r
    | _ => false
  | .neg a, ex => match ex with
    | .UnaryOp .USub x _ => ckE c a x
    | _ => false
  | .not a, ex => match ex with
    | .UnaryOp .Not x _ => ckE c a x
    | _ => false
  | .and es, ex => match ex with
    | .BoolOp .And fs _ => ckEs c es fs
    | _ => false
  | .or es, ex => match ex with
    | .BoolOp .Or fs _ => ckEs c es fs
    | _ => false
  | .cmp op a b, ex => match ex with
    | .Compare l [o] [r] _ => decide (o = coOp op) && ckE c a l && ckE c b r
    | _ => false
  | .ite k a b, ex => match ex with
    | .IfExp t x y _ => ckE c k t && ckE c a x && ckE c b y
    | _ => false
  | .idx a b, ex => match ex with
    | .Subscript v s _ => ckE c a v && ckE c b s
    | _ => false
  | .slc a lo hi, ex => match ex with
    | .Subscript v (.Slice l h none _) _ => ckE c a v && (match l with
        | none => isAbs lo
        | some l => ckE c lo l) && (match h with
        | none => isAbs hi
        | some h => ckE c hi h)
    | _ => false
  | .absent, _ => false
  | .call f es, ex => match ex with
    | .Call (.Name x _) fs [] _ => decide (f < c.nf) && decide (c.fn f = x) && glB c.sc x && ckEs c es fs
    | _ => false
  | .callk f es ks perm, ex => match ex with
    | .Call (.Name x _) fs kws _ => decide (f < c.nf) && decide (c.fn f = x) && glB c.sc x && (match kwNames kws with
        | some ns => decide ((f, fs.length, ns, perm) ∈ c.kw)
        | none => false) && ckEs c es fs && ckKs c ks kws
    | _ => false
  | .prim p es, ex => match ex with
    | .Call (.Name x _) (e :: fs) [] _ => decide (x = prN p) && blB c x && ckEs c es (e :: fs)
    | _ => false
  | .isin t a, ex => match ex with
    | .Call (.Name x _) [e, .Name y _] [] _ => decide (x = "isinstance") && blB c x && decide (y = (tyN t : Str)) && blB c y && ckE c a e
    | _ => false
  | .meth m o es, ex => match ex with
    | .Call (.Attribute e n p) fs [] q => decide (n = mtN m) && ckE c o e && ckEs c es fs && noCall0 e && (p.endLine == q.line) && decide (fs.length < 29)
    | _ => false
  | .lc elt t it cs own, ex => match ex with
    | .ListComp el [⟨tg, iter, ifs, as⟩] scope _ => decide (as = 0) && ckIt c it iter && blkC c.N c.sc scope (ownP c.N own) && (slotsT t).all (fun i => own.contains i) && own.all (fun i => locB scope (c.N.getD i "")) &&
        ckT { c with sc := relS scope c.sc } t tg && ckEs { c with sc := relS scope c.sc } cs ifs && decide (ifs.length ≤ 1) && ckE { c with sc := relS scope c.sc } elt el
    | _ => false
def ckEs (c : Cn) : Es → List Expr → Bool
  | .nil, [] => true
  | .cons e es, x :: xs => ckE c e x && ckEs c es xs
  | _, _ => false
def ckKs (c : Cn) : Es → List Keyword → Bool
  | .nil, [] => true
  | .cons e es, ⟨some _, x, _⟩ :: xs => ckE c e x && ckKs c es xs
  | _, _ => false
def ckIt (c : Cn) : It → Expr → Bool
  | .seq e, ex => ckE c e ex
  | .range1 e, ex => match ex with
    | .Call (.Name x _) [a] [] _ => decide (x = "range") && blB c x && ckE c e a
    | _ => false
  | .range2 e f, ex => match ex with
    | .Call (.Name x _) [a, b] [] _ => decide (x = "range") && blB c x && ckE c e a && ckE c f b
    | _ => false
end

/-! ### what the checker's forms are not -/
section
variable {c : Cn} {e : E} {ex : Expr}
theorem ck_star (h : ckE c e ex = true) : noStar ex = true := by
  cases ex <;> first | rfl | (cases e <;> simp [ckE] at h)
theorem star_each {x : Expr} {xs : List Expr} {env : PySem.Env} (h : noStar x = true) : starEach (x :: xs) env = (false, eval x env) :: starEach xs env := by
  cases x <;> first | rfl | cases h
theorem asg_each {x : Expr} {xs : List Expr} {env : PySem.Env} (h : noStar x = true) : assignEach (x :: xs) env = (false, assign x env) :: assignEach xs env := by
  cases x <;> first | rfl | cases h
theorem ck_plainIx (h : ckE c e ex = true) : PlainIx ex := by
  intro o i
  cases ex <;> first | rfl | (cases e <;> simp [ckE] at h)
theorem ck_fold (h : ckE c e ex = true) (env : PySem.Env) : ∀ x, foldedSetIterable ex env x = pure x := by
  intro x
  cases ex <;> first | rfl | (cases e <;> simp [ckE] at h)
theorem ckIt_fold {it : It} (h : ckIt c it ex = true) (env : PySem.Env) : ∀ x, foldedSetIterable ex env x = pure x := by
  cases it with
  | seq e => unfold ckIt at h; exact ck_fold h env
  | range1 e =>
    intro x
    unfold ckIt at h
    cases ex <;> first | rfl | simp at h
  | range2 e f =>
    intro x
    unfold ckIt at h
    cases ex <;> first | rfl | simp at h
theorem base_of (h : noCall0 ex = true) (f : Str) (env : PySem.Env) : attributeBase ex f env (eval ex env) = eval ex env := by
  cases ex with
  | Call g as ks p =>
    cases g with
    | Name x q =>
      cases as with
      | nil =>
        cases ks with
        | nil => cases h
        | cons _ _ => rfl
      | cons _ _ => rfl
    | _ => rfl
  | _ => rfl
theorem back_plain : ∀ {es : Es} {fs : List Expr} {pos : Pos} {env : PySem.Env}, ckEs c es fs = true → (backTo pos (starEach fs env)).any (·.1) = false
  | .nil, [], _, _, _ => rfl
  | .nil, _ :: _, _, _, h => by simp [ckEs] at h
  | .cons _ _, [], _, _, h => by simp [ckEs] at h
  | .cons e es, x :: xs, pos, env, h => by
    unfold ckEs at h
    rw [Bool.and_eq_true] at h
    rw [star_each (ck_star h.1)]
    have ih := back_plain (es := es) (fs := xs) (pos := pos) (env := env) h.2
    unfold backTo at ih ⊢
    rw [List.map_cons, List.any_cons, ih]
    rfl
theorem vis_of {sc : Scope} {x : Str} (h : visB sc x = true) : Vis sc x := by
  unfold visB at h
  split at h
  · rename_i e; exact .inl e
  · rename_i e; exact .inr (.inl e)
  · rename_i e; exact .inr (.inr e)
  · cases h
theorem loc_of {sc : Scope} {x : Str} (h : locB sc x = true) : Loc sc x := by
  unfold locB at h
  split at h
  · rename_i e; exact .inl e
  · rename_i e; exact .inr e
  · cases h
theorem gl_of {sc : Scope} {x : Str} (h : glB sc x = true) : sc.names.lookup x = some .globalImplicit ∧ (x == ("__debug__" : Str)) = false := by
  unfold glB at h
  split at h
  · rename_i e
    refine ⟨e, ?_⟩
    simpa using h
  · cases h
end
end SX
namespace SX
open PySem PySem.Spec PyProof.Rows L2
noncomputable section
open Classical

/-! ### promises -/
def GSp (K : PySem.W.Frag) (n : Nat) (φ : List D → Store → Res D) : Sp := fun vs H Q _ => vs.length = n ∧ ∃ ι S ds, SR K ι S H ∧ Reps K ι H ds vs ∧ Got K ι H (φ ds S) (Rep K) Q
def permV {α : Type} (perm : List Nat) (ds : List α) : List α := perm.filterMap fun i => ds[i]?
structure KB (fd : FuncData) (ps : List Str) (n : Nat) (ks : List Str) (perm : List Nat) : Prop where
  to : ∀ us ws : List Value, us.length = n → ws.length = ks.length → bindArgs fd ⟨us, ks.zip ws⟩ = pure (ps.zip (permV perm (us ++ ws)))
  lt : ∀ i ∈ perm, i < n + ks.length
structure FnC (X : Cx) (name : Str) (φ : List D → Store → Res D) (kw : List (Nat × List Str × List Nat)) : Prop where
  ex : ∃ fa fd ps k, X.mg name = some (.ref fa) ∧ PySem.W.keepIn X.K (.ref fa) = true ∧ FnOk X.prog X.w X.K X.mg X.base CX0 k fa fd ps (GSp X.K ps.length φ) ∧ Room k X.A ∧ L2.Binds X.K fd ps [] ∧ (∀ q ∈ kw, KB fd ps q.1 q.2.1 q.2.2) ∧ ∀ ds S d S', φ ds S = .ok d S' → ds.length = ps.length
structure Fits (c : Cn) (F : Fns) (X : Cx) : Prop where
  calm : X.calm = true
  N : X.N = c.N
  nd : c.N.Nodup
  sc : X.env.scope = c.sc
  un : X.A.units + 64 < cLine
  xe : X.xe = fun _ _ => False
  bl : ∀ x, c.bl.contains x = true → X.mg x = none
  fns : ∀ f, f < c.nf → FnC X (c.fn f) (F f) ((c.kw.filter fun q => q.1 == f).map (·.2))
def RdE (K : PySem.W.Frag) (F : Fns) (e : E) : TE := fun σ H Q => ∃ ι env S, REnv K ι H env σ ∧ SR K ι S H ∧ Got K ι H (evE F e env S) (Rep K) Q
def RdEs (K : PySem.W.Frag) (F : Fns) (es : Es) : TA := fun σ H Q => ∃ ι env S, REnv K ι H env σ ∧ SR K ι S H ∧ Got K ι H (evEs F es env S) (Reps K) Q
def RdB (K : PySem.W.Frag) (f : Env → Store → Res Bool) : TT := fun σ H Q => ∃ ι env S, REnv K ι H env σ ∧ SR K ι S H ∧ Got K ι H (f env S) (fun _ _ a b => a = b) Q
def RdV (K : PySem.W.Frag) (f : Env → Store → Res D) : TE := fun σ H Q => ∃ ι env S, REnv K ι H env σ ∧ SR K ι S H ∧ Got K ι H (f env S) (Rep K) Q
theorem PE.imp {X : Cx} {e : Expr} {t t' : TE} (h : PE X e t) (w : ∀ σ H Q, t' σ H Q → t σ H Q) : PE X e t' := ⟨fun pins s σ H Q I q => h.run pins s σ H Q I (w σ H Q q)⟩
theorem PT.imp {X : Cx} {e : Expr} {t t' : TT} (h : PT X e t) (w : ∀ σ H Q, t' σ H Q → t σ H Q) : PT X e t' := ⟨fun pins s σ H Q I q => h.run pins s σ H Q I (w σ H Q q)⟩
theorem PW.imp {X : Cx} {e : Expr} {t t' : TT} (h : PW X e t) (w : ∀ σ H Q, t' σ H Q → t σ H Q) : PW X e t' := ⟨fun wh pins s σ H Q I q => h.run wh pins s σ H Q I (w σ H Q q)⟩
theorem PA.imp {X : Cx} {e : List Expr} {t t' : TA} (h : PA X e t) (w : ∀ σ H Q, t' σ H Q → t σ H Q) : PA X e t' := ⟨fun pos pins s σ H Q I q => h.run pos pins s σ H Q I (w σ H Q q)⟩
theorem PK.imp {X : Cx} {e : List Keyword} {t t' : TA} (h : PK X e t) (w : ∀ σ H Q, t' σ H Q → t σ H Q) : PK X e t' := ⟨fun pos pins s σ H Q I q => h.run pos pins s σ H Q I (w σ H Q q)⟩
theorem PS.imp {X : Cx} {e : Stmt} {t t' : TS} (h : PS X e t) (w : ∀ D σ H, t' D σ H → t D σ H) : PS X e t' := ⟨fun pins s σ H D I q => h.run pins s σ H D I (w D σ H q)⟩
theorem PSs.imp {X : Cx} {e : List Stmt} {t t' : TS} (h : PSs X e t) (w : ∀ D σ H, t' D σ H → t D σ H) : PSs X e t' := ⟨fun pins s σ H D I q => h.run pins s σ H D I (w D σ H q)⟩
theorem PI.imp {X : Cx} {g e : Expr} {t t' : TI} (h : PI X g e t) (w : ∀ σ H Q, t' σ H Q → t σ H Q) : PI X g e t' := ⟨fun pins s σ H R I q => h.run pins s σ H R I (w σ H R q)⟩

/-! ### composing -/
section
variable {K : PySem.W.Frag} {ι : List Addr} {H : Hp} {env : Env} {σ : L2.St} {S : Store} {F : Fns}
/-- an expression first -/
theorem got_E {α β : Type} {e : E} {k : D → Store → Res α} {R : List Addr → Hp → α → β → Prop} {Q : β → Hp → Prop} (re : REnv K ι H env σ) (s : SR K ι S H) (g : Got K ι H ((evE F e env S).bnd k) R Q)
    {P : VK} (h : ∀ ι1 H1 d v S1, Step ι H ι1 H1 → REnv K ι1 H1 env σ → SR K ι1 S1 H1 → Rep K ι1 H1 d v → Got K ι1 H1 (k d S1) R Q → P v H1) : RdE K F e σ H P := by
  obtain ⟨d, S1, e1, g1⟩ := got_bnd g
  exact ⟨ι, env, S, re, s, d, S1, e1, fun ι1 H1 v st s1 r => h ι1 H1 d v S1 st (re.step st) s1 r (got_step st g1)⟩
theorem got_V {α β : Type} {f : Env → Store → Res D} {k : D → Store → Res α} {R : List Addr → Hp → α → β → Prop} {Q : β → Hp → Prop} (re : REnv K ι H env σ) (s : SR K ι S H) (g : Got K ι H ((f env S).bnd k) R Q)
    {P : VK} (h : ∀ ι1 H1 d v S1, Step ι H ι1 H1 → REnv K ι1 H1 env σ → SR K ι1 S1 H1 → Rep K ι1 H1 d v → Got K ι1 H1 (k d S1) R Q → P v H1) : RdV K f σ H P := by
  obtain ⟨d, S1, e1, g1⟩ := got_bnd g
  exact ⟨ι, env, S, re, s, d, S1, e1, fun ι1 H1 v st s1 r => h ι1 H1 d v S1 st (re.step st) s1 r (got_step st g1)⟩
theorem got_Es {α β : Type} {e : Es} {k : List D → Store → Res α} {R : List Addr → Hp → α → β → Prop} {Q : β → Hp → Prop} (re : REnv K ι H env σ) (s : SR K ι S H) (g : Got K ι H ((evEs F e env S).bnd k) R Q)
    {P : List V → Hp → Prop} (h : ∀ ι1 H1 ds vs S1, Step ι H ι1 H1 → REnv K ι1 H1 env σ → SR K ι1 S1 H1 → Reps K ι1 H1 ds vs → Got K ι1 H1 (k ds S1) R Q → P vs H1) : RdEs K F e σ H P := by
  obtain ⟨d, S1, e1, g1⟩ := got_bnd g
  exact ⟨ι, env, S, re, s, d, S1, e1, fun ι1 H1 v st s1 r => h ι1 H1 d v S1 st (re.step st) s1 r (got_step st g1)⟩
theorem got_B {α β : Type} {f : Env → Store → Res Bool} {k : Bool → Store → Res α} {R : List Addr → Hp → α → β → Prop} {Q : β → Hp → Prop} (re : REnv K ι H env σ) (s : SR K ι S H) (g : Got K ι H ((f env S).bnd k) R Q)
    {P : Bool → Hp → Prop} (h : ∀ ι1 H1 b S1, Step ι H ι1 H1 → REnv K ι1 H1 env σ → SR K ι1 S1 H1 → Got K ι1 H1 (k b S1) R Q → P b H1) : RdB K f σ H P := by
  obtain ⟨d, S1, e1, g1⟩ := got_bnd g
  exact ⟨ι, env, S, re, s, d, S1, e1, fun ι1 H1 v st s1 r => by subst r; exact h ι1 H1 d S1 st (re.step st) s1 (got_step st g1)⟩
theorem bnd_id {α : Type} (r : Res α) : r.bnd (fun a S => .ok a S) = r := by cases r <;> rfl
end

/-! ### targets -/
theorem PG.imp {X : Cx} {e : Expr} {t t' : TG} (h : PG X e t) (w : ∀ v σ H Q, t' v σ H Q → t v σ H Q) : PG X e t' := ⟨fun pins s σ H v u Q I r q => h.run pins s σ H v u Q I r (w v σ H Q q)⟩
theorem PGs.imp {X : Cx} {e : List Expr} {t t' : TGs} (h : PGs X e t) (w : ∀ v σ H Q, t' v σ H Q → t v σ H Q) : PGs X e t' := ⟨fun pins s σ H v u Q I r q => h.run pins s σ H v u Q I r (w v σ H Q q)⟩
def WipeOk (sl : List Nat) (σ σ' : L2.St) : Prop := ∀ own : List Nat, (∀ i ∈ sl, i ∈ own) → L2.wipe σ' own = L2.wipe σ own
def TgS (K : PySem.W.Frag) (t : Tg) : TG := fun v σ H Q => ∃ ι S env d env', REnv K ι H env σ ∧ SR K ι S H ∧ Rep K ι H d v ∧ asgT t d S env = some env' ∧ ∀ σ', REnv K ι H env' σ' → WipeOk (slotsT t) σ σ' → Q σ' H
def TgsS (K : PySem.W.Frag) (ts : Tgs) : TGs := fun vs σ H Q => ∃ ι S env ds env', REnv K ι H env σ ∧ SR K ι S H ∧ Reps K ι H ds vs ∧ asgTs ts ds S env = some env' ∧ ∀ σ', REnv K ι H env' σ' → WipeOk (slotsTs ts) σ σ' → Q σ' H
theorem wipe_set {σ : L2.St} {i : Nat} {x : Option V} : ∀ {own : List Nat}, i ∈ own → L2.wipe (σ.set i x) own = L2.wipe σ own
  | j :: js, h => by
    unfold L2.wipe
    by_cases e : i ∈ js
    · rw [wipe_set e]
    · have hij : i = j := by
        rcases List.mem_cons.mp h with z | z
        · exact z
        · exact absurd z e
      subst hij
      have out : ∀ (vs : List Nat), i ∉ vs → L2.wipe (σ.set i x) vs = (L2.wipe σ vs).set i x := by
        intro vs
        induction vs with
        | nil => intro _; rfl
        | cons w ws ih =>
          intro hw
          rw [List.mem_cons, not_or] at hw
          unfold L2.wipe
          rw [ih hw.2, List.set_comm _ _ hw.1]
      rw [out js e, List.set_set]
theorem asg_len : ∀ {ts : Tgs} {es : List Expr} {c : Cn} {env : PySem.Env}, ckTs c ts es = true → (assignEach es env).length = es.length ∧ (assignEach es env).findIdx? (·.1) = none
  | .nil, [], _, _, _ => ⟨rfl, rfl⟩
  | .nil, _ :: _, _, _, h => by simp [ckTs] at h
  | .cons _ _, [], _, _, h => by simp [ckTs] at h
  | .cons t ts, e :: es, c, env, h => by
    unfold ckTs at h
    simp only [Bool.and_eq_true] at h
    obtain ⟨h1, h2⟩ := asg_len (env := env) h.2
    rw [asg_each h.1.2]
    refine ⟨by rw [List.length_cons, List.length_cons, h1], ?_⟩
    rw [List.findIdx?_cons]
    simp [h2]
theorem asgTs_len : ∀ {ts : Tgs} {es : List Expr} {c : Cn} {ds : List D} {S : Store} {env env' : Env}, ckTs c ts es = true → asgTs ts ds S env = some env' → ds.length = es.length
  | .nil, [], _, [], _, _, _, _, _ => rfl
  | .nil, [], _, _ :: _, _, _, _, _, e => by simp [asgTs] at e
  | .nil, _ :: _, _, _, _, _, _, h, _ => by simp [ckTs] at h
  | .cons _ _, [], _, _, _, _, _, h, _ => by simp [ckTs] at h
  | .cons _ _, _ :: _, _, [], _, _, _, _, e => by simp [asgTs] at e
  | .cons t ts, e :: es, c, d :: ds, S, env, env', h, a => by
    unfold ckTs at h
    simp only [Bool.and_eq_true] at h
    unfold asgTs at a
    split at a
    · rw [List.length_cons, List.length_cons, asgTs_len h.2 a]
    · cases a
mutual
theorem pg_T {X : Cx} {c : Cn} (hc : X.calm = true) (hN : X.N = c.N) (nd : c.N.Nodup) (hs : X.env.scope = c.sc) : ∀ (t : Tg) (ex : Expr), ckT c t ex = true → (∀ i ∈ slotsT t, ∀ x, c.N[i]? = some x → X.fn x = true ∨ X.env.scope.names.lookup x = some .local) → PG X ex (TgS X.K t)
  | .nm i, ex, h, hf => by
    unfold ckT at h
    split at h
    · rename_i x p
      rw [Bool.and_eq_true] at h
      have hi : X.N[i]? = some x := by rw [hN]; exact of_decide_eq_true h.1
      refine PG.imp (pg_name (by rw [hN]; exact nd) hi (by rw [hs]; exact loc_of h.2) (hf i (by unfold slotsT; simp) x (of_decide_eq_true h.1))) fun v σ H Q q => ?_
      obtain ⟨ι, S, env, d, env', re, sr, r, e, q⟩ := q
      unfold asgT at e
      cases e
      refine q _ (re.set r) fun own ho => ?_
      exact wipe_set (ho i (by unfold slotsT; simp))
    · cases h
  | .tp ts, ex, h, hf => by
    unfold ckT at h
    split at h
    · rename_i es k p
      obtain ⟨l1, l2⟩ := asg_len (env := X.env) h
      refine PG.imp (pg_tup hc (pgs_T hc hN nd hs ts es h (fun i hi => hf i (by unfold slotsT; exact hi))) l1 l2) fun v σ H Q q => ?_
      obtain ⟨ι, S, env, d, env', re, sr, r, e, q⟩ := q
      unfold asgT at e
      split at e
      · obtain ⟨a, xs, rfl, hq, rr⟩ := rep_tup r
        refine ⟨a, xs, rfl, hq, by rw [← rr.len, asgTs_len h e], ι, S, env, _, env', re, sr, rr, e, fun σ' r' w => q σ' r' ?_⟩
        unfold slotsT
        exact w
      · cases e
    · cases h
theorem pgs_T {X : Cx} {c : Cn} (hc : X.calm = true) (hN : X.N = c.N) (nd : c.N.Nodup) (hs : X.env.scope = c.sc) : ∀ (ts : Tgs) (es : List Expr), ckTs c ts es = true → (∀ i ∈ slotsTs ts, ∀ x, c.N[i]? = some x → X.fn x = true ∨ X.env.scope.names.lookup x = some .local) → PGs X es (TgsS X.K ts)
  | .nil, [], _, _ => by
    refine PGs.imp pgs_nil fun vs σ H Q q => ?_
    obtain ⟨ι, S, env, ds, env', re, sr, r, e, q⟩ := q
    cases ds with
    | nil =>
      unfold asgTs at e
      cases e
      exact ⟨r.unnil, q σ re fun own _ => rfl⟩
    | cons d ds => unfold asgTs at e; cases e
  | .nil, _ :: _, h, _ => by simp [ckTs] at h
  | .cons _ _, [], h, _ => by simp [ckTs] at h
  | .cons t ts, x :: es, h, hf => by
    unfold ckTs at h
    simp only [Bool.and_eq_true] at h
    refine PGs.imp (pgs_cons (pg_T hc hN nd hs t x h.1.1 (fun i hi => hf i (by unfold slotsTs; exact List.mem_append_left _ hi))) (pgs_T hc hN nd hs ts es h.2 (fun i hi => hf i (by unfold slotsTs; exact List.mem_append_right _ hi)))
      (by rw [asg_each h.1.2]; rfl)) fun vs σ H Q q => ?_
    obtain ⟨ι, S, env, ds, env', re, sr, r, e, q⟩ := q
    cases ds with
    | nil => unfold asgTs at e; cases e
    | cons d ds =>
      unfold asgTs at e
      split at e
      · rename_i env1 e1
        obtain ⟨v, w, rfl, r1, r2⟩ := r.uncons
        refine ⟨v, w, rfl, ι, S, env, d, env1, re, sr, r1, e1, fun σ1 re1 w1 => ⟨ι, S, env1, ds, env', re1, sr, r2, e, fun σ2 re2 w2 => q σ2 re2 fun own ho => ?_⟩⟩
        unfold slotsTs at ho
        rw [w2 own fun i hi => ho i (List.mem_append_right _ hi), w1 own fun i hi => ho i (List.mem_append_left _ hi)]
      · cases e
end
end
end SX
namespace SX
open PySem PySem.Spec PyProof.Rows L2
noncomputable section
open Classical

/-! ### walks -/
structure Walks (K : PySem.W.Frag) (J : L2.It) (w : Walk) (ι0 : List Addr) (H0 : Hp) : Prop where
  go : ∀ (i : Nat) ι H S, Mono ι0 H0 ι H → SR K ι S H → w.here S → i < w.items.length → J.go i H
  yld : ∀ (i : Nat) ι H S x H' d, Mono ι0 H0 ι H → SR K ι S H → w.here S → w.items[i]? = some d → J.yld i H x H' → Rep K ι H' d x ∧ Step ι H ι H' ∧ SR K ι S H'
  stop : ∀ (i : Nat) ι H S, Mono ι0 H0 ι H → SR K ι S H → w.here S → w.items.length ≤ i → J.stop i H
theorem walks_tup {K : PySem.W.Frag} {ι : List Addr} {H : Hp} {ds : List D} {a : Addr} {xs : List V} (h : SqT K H a xs) (r : Reps K ι H ds xs) : Walks K (Itt K a) ⟨ds, none⟩ ι H where
  go := fun i ι1 H1 S m _ _ hi => by
    have hx : i < xs.length := by rw [← r.len]; exact hi
    exact ⟨xs, xs[i], m.sqT h, List.getElem?_eq_getElem hx⟩
  yld := fun i ι1 H1 S x H' d m s _ e y => by
    obtain ⟨rfl, y⟩ := y
    obtain ⟨v, ev, rv⟩ := (Reps.mono m ds xs r).get e
    have e2 := y xs (m.sqT h)
    rw [ev] at e2
    cases e2
    exact ⟨rv, Step.refl, s⟩
  stop := fun i ι1 H1 S m _ _ hi => ⟨xs, m.sqT h, by rw [← r.len]; exact hi⟩
theorem walks_rls {K : PySem.W.Frag} {ι : List Addr} {H : Hp} {ds : List D} {a : Addr} {xs : List V} (h : RoL K H a xs) (r : Reps K ι H ds xs) : Walks K (Itl K a) ⟨ds, none⟩ ι H where
  go := fun i ι1 H1 S m _ _ hi => by
    have hx : i < xs.length := by rw [← r.len]; exact hi
    exact ⟨xs, xs[i], (m.roL h).seq, List.getElem?_eq_getElem hx⟩
  yld := fun i ι1 H1 S x H' d m s _ e y => by
    obtain ⟨rfl, y⟩ := y
    obtain ⟨v, ev, rv⟩ := (Reps.mono m ds xs r).get e
    have e2 := y xs (m.roL h).seq
    rw [ev] at e2
    cases e2
    exact ⟨rv, Step.refl, s⟩
  stop := fun i ι1 H1 S m _ _ hi => ⟨xs, (m.roL h).seq, by rw [← r.len]; exact hi⟩
theorem walks_lst {K : PySem.W.Frag} {ι : List Addr} {H : Hp} {ds : List D} {a : Addr} {l : Nat} (h : ι[l]? = some a) : Walks K (Itl K a) ⟨ds, some l⟩ ι H where
  go := fun i ι1 H1 S m s e hi => by
    obtain ⟨b, xs, e1, q, r⟩ := s.lst e
    rw [m.get h] at e1
    cases e1
    have hx : i < xs.length := by rw [← r.len]; exact hi
    exact ⟨xs, xs[i], SqL.of q, List.getElem?_eq_getElem hx⟩
  yld := fun i ι1 H1 S x H' d m s e0 e y => by
    obtain ⟨rfl, y⟩ := y
    obtain ⟨b, xs, e1, q, r⟩ := s.lst e0
    rw [m.get h] at e1
    cases e1
    obtain ⟨v, ev, rv⟩ := r.get e
    have e2 := y xs (SqL.of q)
    rw [ev] at e2
    cases e2
    exact ⟨rv, Step.refl, s⟩
  stop := fun i ι1 H1 S m s e hi => by
    obtain ⟨b, xs, e1, q, r⟩ := s.lst e
    rw [m.get h] at e1
    cases e1
    exact ⟨xs, SqL.of q, by rw [← r.len]; exact hi⟩
theorem walks_rng {K : PySem.W.Frag} {ι : List Addr} {H : Hp} (lo : Int) (n : Nat) : Walks K (Itr lo n) ⟨(List.range n).map fun (k : Nat) => .int (lo + (k : Int)), none⟩ ι H where
  go := fun i ι1 H1 S m s e hi => by
    show i < n
    simpa using hi
  yld := fun i ι1 H1 S x H' d m s e0 e y => by
    obtain ⟨rfl, rfl⟩ := y
    have hi : i < n := by
      have := (List.getElem?_eq_some_iff.mp e).1
      simpa using this
    rw [List.getElem?_map, List.getElem?_range hi] at e
    cases e
    exact ⟨to_int _, Step.refl, s⟩
  stop := fun i ι1 H1 S m s e hi => by
    show n ≤ i
    simpa using hi
def RdI (K : PySem.W.Frag) (F : Fns) (it : It) : TI := fun σ H R => ∃ ι env S w S1, REnv K ι H env σ ∧ SR K ι S H ∧ evIt F it env S = .ok w S1 ∧ ∀ ι1 H1 J, Step ι H ι1 H1 → SR K ι1 S1 H1 → Walks K J w ι1 H1 → R J H1

/-! ### a list that is being made -/
theorem step_out {ι ι' : List Addr} {H H' : Hp} {D : Addr} {o : HO} (s : Step ι H ι' H') (h : H D = none) : Step ι H ι' (upd H' D o) where
  pre := s.pre
  tup := fun a xs e => by rw [upd_ne (ne_of_none e h)]; exact s.tup a xs e
  frz := fun a x u e => by rw [upd_ne (ne_of_none e h)]; exact s.frz a x u e
  keep := fun a x e n => by rw [upd_ne (ne_of_none e h)]; exact s.keep a x e n
  new := s.new
theorem mono_out {ι : List Addr} {H : Hp} {D : Addr} {xs ys : List V} (h : H D = some (.lst xs)) : Mono ι H ι (upd H D (.lst ys)) where
  pre := ⟨[], by simp⟩
  tup := fun b zs e => by rw [upd_ne (ne_of e h (by intro z; cases z))]; exact e
  frz := fun b x u e => by rw [upd_ne (ne_of e h (by intro z; cases z))]; exact e
theorem SR.out {K : PySem.W.Frag} {ι : List Addr} {S : Store} {H : Hp} {p : Addr} {xs ys : List V} (s : SR K ι S H) (n : p ∉ ι) (h : H p = some (.lst xs)) : SR K ι S (upd H p (.lst ys)) :=
  ⟨s.nd, s.len, fun l x a e1 e2 => by
    have ha : a ≠ p := fun z => n (z ▸ List.mem_of_getElem? e2)
    have q := s.at_ l x a e1 e2
    cases x with
    | lst ds =>
      obtain ⟨zs, h1, h2⟩ := q
      exact ⟨zs, by rw [upd_ne ha]; exact h1, Reps.mono (mono_out h) ds zs h2⟩⟩
theorem SR.add {K : PySem.W.Frag} {ι : List Addr} {S : Store} {H : Hp} {p : Addr} {xs : List V} {ds : List D} (s : SR K ι S H) (n : p ∉ ι) (h : H p = some (.lst xs)) (r : Reps K ι H ds xs) : SR K (ι ++ [p]) (S ++ [.lst ds]) H := by
  have m : Mono ι H (ι ++ [p]) H := ⟨⟨[p], rfl⟩, fun _ _ e => e, fun _ _ _ e => e⟩
  refine ⟨?_, by rw [List.length_append, List.length_append, s.len]; rfl, fun l x a e1 e2 => ?_⟩
  · rw [List.nodup_append]
    refine ⟨s.nd, by simp, fun a ha b hb e => ?_⟩
    rw [List.mem_singleton.mp hb] at e
    exact n (e ▸ ha)
  · by_cases hl : l < S.length
    · rw [List.getElem?_append_left hl] at e1
      rw [List.getElem?_append_left (by rw [s.len]; exact hl)] at e2
      have q := s.at_ l x a e1 e2
      cases x with
      | lst es =>
        obtain ⟨zs, h1, h2⟩ := q
        exact ⟨zs, h1, Reps.mono m es zs h2⟩
    · have hl2 : l = S.length := by
        have := (List.getElem?_eq_some_iff.mp e1).1
        rw [List.length_append] at this
        simp at this
        omega
      subst hl2
      rw [List.getElem?_append_right (Nat.le_refl _)] at e1
      rw [List.getElem?_append_right (by rw [s.len]; exact Nat.le_refl _), s.len] at e2
      simp at e1 e2
      subst e1 e2
      exact ⟨xs, h, Reps.mono m ds xs r⟩
theorem step_add {ι ι' : List Addr} {H H' : Hp} {D : Addr} (s : Step ι H ι' H') (h : H D = none) : Step ι H (ι' ++ [D]) H' where
  pre := by
    obtain ⟨t, e⟩ := s.pre
    exact ⟨t ++ [D], by rw [e, List.append_assoc]⟩
  tup := s.tup
  frz := s.frz
  keep := s.keep
  new := fun a h1 h2 => by
    rcases List.mem_append.mp h1 with z | z
    · exact s.new a z h2
    · rw [List.mem_singleton.mp z]; exact h
theorem wipe_idem (σ : L2.St) (own : List Nat) : L2.wipe (L2.wipe σ own) own = L2.wipe σ own := by
  have : ∀ (vs : List Nat) (τ : L2.St), (∀ i ∈ vs, i ∈ own) → L2.wipe (L2.wipe τ vs) own = L2.wipe τ own := by
    intro vs
    induction vs with
    | nil => intro τ _; rfl
    | cons v vs ih =>
      intro τ h
      show L2.wipe ((L2.wipe τ vs).set v none) own = _
      rw [wipe_set (h v List.mem_cons_self), ih τ fun i hi => h i (List.mem_cons_of_mem _ hi)]
  exact this own σ fun _ h => h
theorem wipeE_idem : True := trivial

/-- the reading of a list comprehension -/
theorem lc_read {K : PySem.W.Frag} {F : Fns} {elt : E} {t : Tg} {it : It} {cs : Es} {own : List Nat} {σ : L2.St} {H : Hp} {Q : VK} (hsl : ∀ i ∈ slotsT t, i ∈ own)
    (h : RdE K F (.lc elt t it cs own) σ H Q) : tLc (RdI K F it) (TgS K t) (RdB K fun e s => evTs F cs e s) (RdE K F elt) own σ H Q := by
  obtain ⟨ι, env, S, re, sr, g⟩ := h
  unfold evE at g
  obtain ⟨w, S1, ew, g1⟩ := got_bnd g
  obtain ⟨ds, S2, el, g2⟩ := got_bnd g1
  refine ⟨ι, env, S, w, S1, re, sr, ew, fun ι1 H1 J st1 sr1 wk D hD => ?_⟩
  have re1 := re.step st1
  have g3 := got_step st1 g2
  let Wi : Nat → Hp → Prop := fun i Hc => ∃ ιc Sc acc accV, Step ι1 H1 ιc Hc ∧ D ∉ ιc ∧ Hc D = some (.lst accV) ∧ SR K ιc Sc Hc ∧ Reps K ιc Hc acc accV ∧ i ≤ w.items.length ∧
    lcL w t env own (fun e s => evTs F cs e s) (fun e s => evE F elt e s) (w.items.drop i) acc Sc = .ok ds S2
  refine ⟨fun i m Hc => m = w.items.length - i ∧ Wi i Hc, ⟨w.items.length, by simp, ι1, S1, [], [], step_laid hD, sr1.notMem hD, upd_same, sr1.laid hD, Reps.nil, Nat.zero_le _, by simpa using el⟩, ?_⟩
  rintro i m Hc ⟨rfl, ιc, Sc, acc, accV, stc, nD, eD, src, ra, hi, eL⟩
  by_cases hlt : i < w.items.length
  · refine .inr ?_
    rw [List.drop_eq_getElem_cons hlt] at eL
    unfold lcL at eL
    split at eL
    · rename_i here
      split at eL
      · rename_i env1 e1
        refine ⟨wk.go i ιc Hc Sc stc.toMono src here hlt, Wi (i + 1), fun H' hw => ⟨w.items.length - (i + 1), by omega, rfl, hw⟩, fun x Hy hy => ?_⟩
        obtain ⟨rd, sty, sry⟩ := wk.yld i ιc Hc Sc x Hy w.items[i] stc.toMono src here (List.getElem?_eq_getElem hlt) hy
        have stcy := stc.trans sty
        have eDy : Hy D = some (.lst accV) := sty.keep D _ eD nD
        have ray := Reps.step sty acc accV ra
        refine ⟨ιc, Sc, wipeE env own, w.items[i], env1, (re1.step stcy).wiped own, sry, rd, e1, fun σ1 re2 wok => ⟨?_, ?_⟩⟩
        · rw [wok own hsl]
          exact wipe_idem σ own
        · obtain ⟨b, S3, eb, el2⟩ := bnd_eq_ok eL
          refine ⟨ιc, env1, Sc, re2, sry, b, S3, eb, fun ι3 H3 b' st3 sr3 hb => ?_⟩
          subst hb
          have eD3 : H3 D = some (.lst accV) := st3.keep D _ eDy nD
          have nD3 : D ∉ ι3 := fun z => by
            have := st3.new D z nD
            rw [eDy] at this
            cases this
          have ra3 := Reps.step st3 acc accV ray
          cases b with
          | true =>
            rw [if_pos rfl] at el2 ⊢
            obtain ⟨y, S4, ey, el3⟩ := bnd_eq_ok el2
            refine ⟨ι3, env1, S3, re2.step st3, sr3, y, S4, ey, fun ι4 H4 yv st4 sr4 ry => ?_⟩
            split at el3
            · rename_i hl
              have eD4 : H4 D = some (.lst accV) := st4.keep D _ eD3 nD3
              have nD4 : D ∉ ι4 := fun z => by
                have := st4.new D z nD3
                rw [eD3] at this
                cases this
              have ra4 := Reps.step st4 acc accV ra3
              refine ⟨accV, eD4, by rw [← line_eq, ← ra4.len]; exact hl, ι4, S4, acc ++ [y], accV ++ [yv], step_out ((stcy.trans st3).trans st4) hD, nD4, upd_same, sr4.out nD4 eD4, ?_, hlt, el3⟩
              exact Reps.mono (mono_out eD4) _ _ (ra4.append (.cons ry .nil))
            · cases el3
          | false =>
            rw [if_neg Bool.false_ne_true] at el2 ⊢
            exact ⟨ι3, S3, acc, accV, stcy.trans st3, nD3, eD3, sr3, ra3, hlt, el2⟩
      · cases eL
    · cases eL
  · have hi2 : i = w.items.length := by omega
    subst hi2
    rw [List.drop_length] at eL
    unfold lcL at eL
    split at eL
    · rename_i here
      cases eL
      refine .inl ⟨wk.stop _ ιc Hc _ stc.toMono src here (Nat.le_refl _), ?_⟩
      unfold new at g3
      refine got_ok g3 (ιc ++ [D]) Hc (.ref D) (step_add stc hD) (src.add nD eD ra) ?_
      unfold Rep
      exact ⟨D, rfl, new_get src D⟩
    · cases eL

/-! ### the tests' own forms -/
theorem pt_ite {X : Cx} {c a b : Expr} {pos : Pos} {tA tB tC : TT} (hc : PT X c tA) (ha : PT X a tB) (hb : PT X b tC) : PT X (.IfExp c a b pos) (fun σ H Q => tA σ H fun k H1 => if k = true then tB σ H1 Q else tC σ H1 Q) := by
  refine ⟨fun pins s σ H Q I h => ?_⟩
  show wpAny _ _ (do if ← isTrue c X.env (eval c X.env) then isTrue a X.env (eval a X.env) else isTrue b X.env (eval b X.env)) _ _ _
  refine wpAny_bind (thn (hc.run pins s σ H _ I h) fun k s1 ⟨H1, I1, q⟩ => ?_)
  cases k with
  | true => exact ha.run pins s1 σ H1 Q I1 q
  | false => exact hb.run pins s1 σ H1 Q I1 q
end
end SX
namespace SX
open PySem PySem.Spec PyProof.Rows L2
noncomputable section
open Classical

theorem boot_pr (p : Pr) : bootBuiltins (prN p) = some (match p with | .abs => .builtin "abs" | .int => .type "int" | .len => .builtin "len" | .max => .builtin "max" | .min => .builtin "min" | .tuple => .type "tuple" | .list => .type "list" | .any => .builtin "any") := by
  cases p <;> decide +kernel
theorem boot_ty (t : Ty) : bootBuiltins (tyN t : Str) = some (.type (tyN t)) := by
  cases t <;> decide +kernel
theorem boot_isi : bootBuiltins ("isinstance" : Str) = some (.builtin "isinstance") := by decide +kernel
theorem bl_of {c : Cn} {F : Fns} {X : Cx} {x : Str} (f : Fits c F X) (h : blB c x = true) : Gl X x ∧ X.mg x = none ∧ x ≠ "__name__" ∧ (x == ("__debug__" : Str)) = false := by
  unfold blB at h
  simp only [Bool.and_eq_true] at h
  obtain ⟨g1, g2⟩ := gl_of h.1.1
  refine ⟨?_, f.bl x h.1.2, ?_, g2⟩
  · show X.env.scope.names.lookup x = _
    rw [f.sc]
    exact g1
  · intro e
    have := h.2
    rw [e] at this
    simp at this
theorem Fits.blk {c : Cn} {F : Fns} {X : Cx} (f : Fits c F X) (s : Shared) (H : Hp) (scope : Scope) (C : Addr) (cl : List (Str × Addr)) (fp : List Addr) :
    Fits { c with sc := relS scope c.sc } F (X.blk s H scope (compEnvC scope cl C X.env) fp) where
  calm := f.calm
  N := f.N
  nd := f.nd
  sc := by
    show relS scope X.env.scope = relS scope c.sc
    rw [f.sc]
  un := f.un
  xe := rfl
  bl := f.bl
  fns := fun g hg => ⟨(f.fns g hg).ex⟩

/-! ### calls of defs -/
theorem kw_names {kws : List Keyword} {ns : List Str} (h : kwNames kws = some ns) (pos : Pos) (env : PySem.Env) :
    (backToKw pos (keywordEach kws env)).all (·.1.isSome) = true ∧ (backToKw pos (keywordEach kws env)).filterMap (·.1) = ns ∧ (backToKw pos (keywordEach kws env)).any (·.1.isNone) = false := by
  induction kws generalizing ns with
  | nil => unfold kwNames at h; cases h; exact ⟨rfl, rfl, rfl⟩
  | cons k ks ih =>
    obtain ⟨nm, v, p⟩ := k
    cases nm with
    | none => unfold kwNames at h; cases h
    | some n =>
      unfold kwNames at h
      obtain ⟨ms, e, rfl⟩ := Option.map_eq_some_iff.mp h
      obtain ⟨h1, h2, h3⟩ := ih e
      unfold backToKw at h1 h2 h3 ⊢
      unfold keywordEach
      refine ⟨?_, ?_, ?_⟩
      · rw [List.map_cons, List.all_cons, h1]; rfl
      · rw [List.map_cons, List.filterMap_cons, h2]
      · rw [List.map_cons, List.any_cons, h3]; rfl
theorem vals_perm {vs : List V} {us : List Value} (r : Vals vs us) : ∀ (perm : List Nat), (∀ i ∈ perm, i < vs.length) → Vals (permV perm vs) (permV perm us)
  | [], _ => .nil
  | i :: is, h => by
    have hi : i < vs.length := h i List.mem_cons_self
    obtain ⟨u, eu, ru⟩ := r.get (List.getElem?_eq_getElem hi)
    have ih := vals_perm r is fun j hj => h j (List.mem_cons_of_mem _ hj)
    unfold permV at ih ⊢
    rw [List.filterMap_cons, List.filterMap_cons, List.getElem?_eq_getElem hi, eu]
    exact .cons ru ih
theorem reps_perm {K : PySem.W.Frag} {ι : List Addr} {H : Hp} {ds : List D} {vs : List V} (r : Reps K ι H ds vs) : ∀ (perm : List Nat), (∀ i ∈ perm, i < vs.length) → Reps K ι H (permD perm ds) (permV perm vs)
  | [], _ => Reps.nil
  | i :: is, h => by
    have hi : i < ds.length := by rw [r.len]; exact h i List.mem_cons_self
    obtain ⟨v, ev, rv⟩ := r.get (List.getElem?_eq_getElem hi)
    have ih := reps_perm r is fun j hj => h j (List.mem_cons_of_mem _ hj)
    unfold permD permV at ih ⊢
    rw [List.filterMap_cons, List.filterMap_cons, List.getElem?_eq_getElem hi, ev]
    exact .cons rv ih
/-- the callee runs, its arguments by keywords too -/
theorem run_kw {X : Cx} {pins : List (Addr × Obj)} {σ : L2.St} {H : Hp} {s : Shared} {Q : VK} {us ws : List Value} {vs zs : List V} {k n : Nat} {f : Addr} {fd : FuncData} {ps ks : List Str} {perm : List Nat} {sp : Sp}
    (F : FnOk X.prog X.w X.K X.mg X.base CX0 k f fd ps sp) (hr : Room k X.A) (hb : KB fd ps n ks perm) (I : Inv X pins σ H s) (r : Vals vs us) (rz : Vals zs ws) (l1 : vs.length = n) (l2 : zs.length = ks.length)
    (h : sp (permV perm (vs ++ zs)) H Q E0) : wpAny (model X.prog X.w) X.A (call (.ref f) us (ks.zip ws)) (EP X pins σ Q) X.xe s := by
  have r2 := vals_perm (r.append rz) perm fun i hi => by
    rw [List.length_append, l1, l2]
    exact hb.lt i hi
  refine wpAny_call (codeAny_mono (F.run X.A X.stack s H ⟨us, ks.zip ws⟩ (permV perm (us ++ ws)) (permV perm (vs ++ zs)) Q E0 hr I.env0 (.of_eq (hb.to us ws (r.length.symm.trans l1) (rz.length.symm.trans l2))) r2 h) fun r s' hq => ?_)
  cases r with
  | error e => exact hq.elim
  | ok fl =>
    cases fl with
    | ret u => exact I.after hq
    | next => exact False.elim hq
    | brk => exact False.elim hq
    | cont => exact False.elim hq
theorem pe_kw {X : Cx} {x : Str} {p pos : Pos} {e : Expr} {es : List Expr} {kws : List Keyword} {t tk : TA} {k n : Nat} {f : Addr} {fd : FuncData} {ps ks : List Str} {perm : List Nat} {sp : Sp}
    (F : FnOk X.prog X.w X.K X.mg X.base CX0 k f fd ps sp) (hr : Room k X.A) (hg : Gl X x) (hdb : (x == ("__debug__" : Str)) = false) (hm : X.mg x = some (.ref f)) (hk : PySem.W.keepIn X.K (.ref f) = true) (hb : KB fd ps n ks perm)
    (ha : PA X (e :: es) t) (hkw : PK X kws tk) (hns : kwNames kws = some ks) (hst : noStar e = true) (hpl : (backTo pos (starEach (e :: es) X.env)).any (·.1) = false) :
    PE X (.Call (.Name x p) (e :: es) kws pos) (fun σ H Q => t σ H fun vs H1 => tk σ H1 fun zs H2 => vs.length = n ∧ zs.length = ks.length ∧ sp (permV perm (vs ++ zs)) H2 Q E0) := by
  refine ⟨fun pins s σ H Q I h => ?_⟩
  obtain ⟨n1, n2, n3⟩ := kw_names hns pos X.env
  refine wpAny_Call_Name_kw (ld_glob I hg hm ?_ hdb)
  refine PySem.W.callWith_KW (first := []) (h₀ := X.base) I.ok.mod.kin hk n1 (thn (ha.run pos pins s σ H _ I h) fun us s1 ⟨vs, H1, I1, r, q⟩ => ?_) (by rw [hpl, n3]; rfl) (star_each hst)
  refine thn (hkw.run pos pins s1 σ H1 _ I1 q) fun ws s2 ⟨zs, H2, I2, rz, l1, l2, q2⟩ => ⟨I2.kIn, ?_⟩
  rw [n2]
  exact run_kw F hr hb I2 r rz l1 l2 q2
theorem pe_kw0 {X : Cx} {x : Str} {p pos : Pos} {kws : List Keyword} {tk : TA} {k : Nat} {f : Addr} {fd : FuncData} {ps ks : List Str} {perm : List Nat} {sp : Sp}
    (F : FnOk X.prog X.w X.K X.mg X.base CX0 k f fd ps sp) (hr : Room k X.A) (hg : Gl X x) (hdb : (x == ("__debug__" : Str)) = false) (hm : X.mg x = some (.ref f)) (hk : PySem.W.keepIn X.K (.ref f) = true) (hb : KB fd ps 0 ks perm)
    (hkw : PK X kws tk) (hns : kwNames kws = some ks) :
    PE X (.Call (.Name x p) [] kws pos) (fun σ H Q => tk σ H fun zs H2 => zs.length = ks.length ∧ sp (permV perm zs) H2 Q E0) := by
  refine ⟨fun pins s σ H Q I h => ?_⟩
  obtain ⟨n1, n2, n3⟩ := kw_names hns pos X.env
  refine wpAny_Call_Name_kw (ld_glob I hg hm ?_ hdb)
  refine PySem.W.callWith_KW0 (first := []) (h₀ := X.base) I.ok.mod.kin hk n1 ?_ (by rw [n3]; rfl)
  refine thn (hkw.run pos pins s σ H _ I h) fun ws s2 ⟨zs, H2, I2, rz, l2, q2⟩ => ⟨I2.kIn, ?_⟩
  rw [n2]
  exact run_kw (us := []) (vs := []) F hr hb I2 .nil rz rfl l2 q2
end
end SX
namespace SX
open PySem PySem.Spec PyProof.Rows L2
noncomputable section
open Classical

theorem ev_and2 {F : Fns} {e e' : E} {es : Es} {env : Env} {S : Store} : evAnd F (.cons e (.cons e' es)) env S = (evE F e env S).bnd fun d S1 => match truD d S1 with
    | some true => evAnd F (.cons e' es) env S1
    | some false => .ok d S1
    | none => .bad := by
  rw [evAnd]
  all_goals first
    | rfl
    | (intro h; cases h)
theorem ev_or2 {F : Fns} {e e' : E} {es : Es} {env : Env} {S : Store} : evOr F (.cons e (.cons e' es)) env S = (evE F e env S).bnd fun d S1 => match truD d S1 with
    | some false => evOr F (.cons e' es) env S1
    | some true => .ok d S1
    | none => .bad := by
  rw [evOr]
  all_goals first
    | rfl
    | (intro h; cases h)
theorem ev_and1 {F : Fns} {e : E} {env : Env} {S : Store} : evAnd F (.cons e .nil) env S = evE F e env S := by rw [evAnd]
theorem ev_or1 {F : Fns} {e : E} {env : Env} {S : Store} : evOr F (.cons e .nil) env S = evE F e env S := by rw [evOr]
theorem got_call {K : PySem.W.Frag} {ι : List Addr} {H : Hp} {S : Store} {ds : List D} {vs : List V} {φ : List D → Store → Res D} {Q : VK} {n : Nat} (sr : SR K ι S H) (r : Reps K ι H ds vs) (hl : ∀ ds S d S', φ ds S = .ok d S' → ds.length = n)
    (g : Got K ι H (φ ds S) (Rep K) Q) : GSp K n φ vs H Q E0 := by
  obtain ⟨d, S', e, q⟩ := id g
  exact ⟨by rw [← r.len]; exact hl _ _ _ _ e, ι, S, ds, sr, r, g⟩
/-- a test by its value's truth -/
theorem tru_read {K : PySem.W.Frag} {F : Fns} {e : E} {σ : L2.St} {H : Hp} {Q : Bool → Hp → Prop} (h : RdB K (fun env S => truR (evE F e env S)) σ H Q) : RdE K F e σ H fun x H' => ∃ k, TruV K x H' k ∧ Q k H' := by
  obtain ⟨ι, env, S, re, sr, g⟩ := h
  unfold truR at g
  refine got_E re sr g fun ι1 H1 d v S1 st re1 sr1 r g1 => ?_
  split at g1
  · rename_i b e
    exact ⟨b, tru_of sr1 r e, got_ok g1 ι1 H1 b Step.refl sr1 rfl⟩
  · exact (got_bad g1).elim
theorem gl_in {c : Cn} {F : Fns} {X : Cx} {x : Str} (f : Fits c F X) (h : glB c.sc x = true) : Gl X x ∧ (x == ("__debug__" : Str)) = false := by
  obtain ⟨g1, g2⟩ := gl_of h
  refine ⟨?_, g2⟩
  show X.env.scope.names.lookup x = _
  rw [f.sc]
  exact g1

theorem boOp_inj (op : BO) : True := trivial
theorem evEs_len {F : Fns} : ∀ {es : Es} {env : Env} {S S' : Store} {ds : List D}, evEs F es env S = .ok ds S' → ds.length = es.len
  | .nil, _, _, _, _, e => by unfold evEs at e; cases e; rfl
  | .cons x es, env, S, S', ds, e => by
    unfold evEs at e
    obtain ⟨d, S1, _, e2⟩ := bnd_eq_ok e
    obtain ⟨r, S2, e3, e4⟩ := bnd_eq_ok e2
    cases e4
    rw [List.length_cons, evEs_len e3]
    rfl
theorem ckEs_len {c : Cn} : ∀ {es : Es} {xs : List Expr}, ckEs c es xs = true → es.len = xs.length
  | .nil, [], _ => rfl
  | .nil, _ :: _, h => by simp [ckEs] at h
  | .cons _ _, [], h => by simp [ckEs] at h
  | .cons e es, x :: xs, h => by
    unfold ckEs at h
    rw [Bool.and_eq_true] at h
    rw [List.length_cons, ← ckEs_len h.2]
    rfl
theorem ckKs_len {c : Cn} : ∀ {es : Es} {xs : List Keyword}, ckKs c es xs = true → es.len = xs.length
  | .nil, [], _ => rfl
  | .nil, _ :: _, h => by simp [ckKs] at h
  | .cons _ _, [], h => by simp [ckKs] at h
  | .cons e es, ⟨none, x, p⟩ :: xs, h => by simp [ckKs] at h
  | .cons e es, ⟨some n, x, p⟩ :: xs, h => by
    unfold ckKs at h
    rw [Bool.and_eq_true] at h
    rw [List.length_cons, ← ckKs_len h.2]
    rfl
theorem kw_len : ∀ {xs : List Keyword} {ns : List Str}, kwNames xs = some ns → xs.length = ns.length
  | [], ns, h => by unfold kwNames at h; cases h; rfl
  | ⟨none, x, p⟩ :: xs, ns, h => by unfold kwNames at h; cases h
  | ⟨some n, x, p⟩ :: xs, ns, h => by
    unfold kwNames at h
    obtain ⟨ms, e, rfl⟩ := Option.map_eq_some_iff.mp h
    rw [List.length_cons, List.length_cons, kw_len e]
theorem bnd_assoc {α β γ : Type} (r : Res α) (k : α → Store → Res β) (m : β → Store → Res γ) : (r.bnd k).bnd m = r.bnd fun a S => (k a S).bnd m := by
  cases r <;> rfl
theorem got_not {K : PySem.W.Frag} {F : Fns} {a : E} {env : Env} {S : Store} {ι : List Addr} {H : Hp} {Q : Bool → Hp → Prop} (g : Got K ι H (truR ((truR (evE F a env S)).bnd fun b S1 => .ok (.bl (!b)) S1)) (fun _ _ a b => a = b) Q) :
    ∃ b S1, truR (evE F a env S) = .ok b S1 ∧ Got K ι H (.ok (!b) S1) (fun _ _ a b => a = b) Q := by
  unfold truR at g
  rw [bnd_assoc] at g
  obtain ⟨b, S1, e, g1⟩ := got_bnd g
  exact ⟨b, S1, e, g1⟩
/-- what is no test of its own form -/
def plainT : E → Bool
  | .not _ => false
  | .and _ => false
  | .or _ => false
  | .cmp _ _ _ => false
  | .ite _ _ _ => false
  | _ => true
theorem plain_of {c : Cn} {e : E} {ex : Expr} {env : PySem.Env} (h : ckE c e ex = true) (p : plainT e = true) : ∀ whole, isTrue ex env whole = (do let v ← whole; standAt ex.pos; holding [v] (truthy v)) := by
  intro whole
  cases ex with
  | UnaryOp op x q => cases op <;> first | rfl | (cases e <;> first | (simp [ckE] at h; done) | (exact Bool.noConfusion (show false = true from p)))
  | BoolOp op x q => cases e <;> first | (simp [ckE] at h; done) | (exact Bool.noConfusion (show false = true from p))
  | Compare l os rs q => cases e <;> first | (simp [ckE] at h; done) | (exact Bool.noConfusion (show false = true from p))
  | IfExp t a b q => cases e <;> first | (simp [ckE] at h; done) | (exact Bool.noConfusion (show false = true from p))
  | _ => rfl
theorem lc_ok {F : Fns} (t : Tg) (own : List Nat) (c : Cn) (X : Cx) (tg : Expr) (scope : Scope) (f : Fits c F X)
    (h2 : blkC c.N c.sc scope (ownP c.N own) = true) (h3 : (slotsT t).all (fun i => own.contains i) = true) (h4 : own.all (fun i => locB scope (c.N.getD i "")) = true)
    (h5 : ckT { c with sc := relS scope c.sc } t tg = true) :
    BlkOk X.N X.env.scope scope (ownP c.N own) ∧
    (∀ (s : Shared) (H : Hp) (C : Addr) (cl : List (Str × Addr)) (fp : List Addr), PG (X.blk s H scope (compEnvC scope cl C X.env) fp) tg (TgS X.K t)) ∧ ∀ i ∈ slotsT t, i ∈ own := by
  have hsl : ∀ i ∈ slotsT t, i ∈ own := fun i hi => by
    have := List.all_eq_true.mp h3 i hi
    simpa using this
  refine ⟨?_, fun s H C cl fp => ?_, hsl⟩
  · rw [f.N, f.sc]
    exact blkOk_by h2
  · have f' := f.blk s H scope C cl fp
    refine pg_T f'.calm f'.N f'.nd f'.sc t tg h5 fun i hi x hx => ?_
    have hl := loc_of (List.all_eq_true.mp h4 i (hsl i hi))
    have ex : c.N.getD i "" = x := by
      rw [List.getD_eq_getElem?_getD, show c.N[i]? = some x from hx]
      rfl
    rw [ex] at hl
    rcases hl with hl | hl
    · right
      rw [f'.sc]
      exact lookup_relS_keep (by decide) hl
    · left
      show (scope.names.lookup x == some .cell) = true
      rw [hl]
      rfl
set_option maxHeartbeats 8000000 in
mutual
theorem sn_E (F : Fns) : ∀ (e : E) (c : Cn) (X : Cx) (ex : Expr), Fits c F X → ckE c e ex = true → PE X ex (RdE X.K F e)
  | .var i, c, X, ex, f, h => by
    unfold ckE at h
    split at h
    · rename_i x p
      simp only [Bool.and_eq_true, decide_eq_true_eq] at h
      refine PE.imp (pe_var (i := i) (by rw [f.N]; exact h.1.1.1) (by rw [f.sc]; exact vis_of h.1.1.2) (by simpa using h.1.2) (by simpa using h.2)) fun σ H Q q => ?_
      obtain ⟨ι, env, S, re, sr, g⟩ := q
      unfold evE at g
      split at g
      · rename_i d ed
        obtain ⟨v, e1, r⟩ := re.2 i d ed
        exact ⟨v, e1, got_val g sr r⟩
      · exact (got_bad g).elim
    · cases h
  | .cint i, c, X, ex, f, h => by
    unfold ckE at h
    split at h
    · obtain rfl := of_decide_eq_true h
      refine PE.imp pe_int fun σ H Q q => ?_
      obtain ⟨ι, env, S, re, sr, g⟩ := q
      unfold evE at g
      exact got_val g sr (to_int _)
    · cases h
  | .cbl i, c, X, ex, f, h => by
    unfold ckE at h
    split at h
    · obtain rfl := of_decide_eq_true h
      refine PE.imp pe_bl fun σ H Q q => ?_
      obtain ⟨ι, env, S, re, sr, g⟩ := q
      unfold evE at g
      exact got_val g sr (to_bl _)
    · cases h
  | .cnon, c, X, ex, f, h => by
    unfold ckE at h
    split at h
    · refine PE.imp pe_non fun σ H Q q => ?_
      obtain ⟨ι, env, S, re, sr, g⟩ := q
      unfold evE at g
      exact got_val g sr to_non
    · cases h
  | .cstr i, c, X, ex, f, h => by
    unfold ckE at h
    split at h
    · obtain rfl := of_decide_eq_true h
      refine PE.imp pe_str fun σ H Q q => ?_
      obtain ⟨ι, env, S, re, sr, g⟩ := q
      unfold evE at g
      exact got_val g sr (to_str _)
    · cases h
  | .tup es, c, X, ex, f, h => by
    unfold ckE at h
    split at h
    · refine PE.imp (pe_tup (sn_Es F es c X _ f h)) fun σ H Q q => ?_
      obtain ⟨ι, env, S, re, sr, g⟩ := q
      unfold evE at g
      refine got_Es re sr g fun ι1 H1 ds vs S1 st re1 sr1 r g1 => ?_
      rcases got_ite g1 with ⟨hl, g1⟩ | ⟨_, g1⟩
      · exact ⟨by rw [← line_eq, ← r.len]; exact hl, got_tup g1 sr1 r⟩
      · exact (got_bad g1).elim
    · cases h
  | .lst es, c, X, ex, f, h => by
    unfold ckE at h
    split at h
    · refine PE.imp (pe_lst (sn_Es F es c X _ f h)) fun σ H Q q => ?_
      obtain ⟨ι, env, S, re, sr, g⟩ := q
      unfold evE at g
      refine got_Es re sr g fun ι1 H1 ds vs S1 st re1 sr1 r g1 => ?_
      rcases got_ite g1 with ⟨hl, g1⟩ | ⟨_, g1⟩
      · exact ⟨by rw [← line_eq, ← r.len]; exact hl, got_new g1 sr1 r⟩
      · exact (got_bad g1).elim
    · cases h
  | .bin op a b, c, X, ex, f, h => by
    unfold ckE at h
    split at h
    · simp only [Bool.and_eq_true, decide_eq_true_eq] at h
      obtain ⟨⟨rfl, h1⟩, h2⟩ := h
      refine PE.imp (pe_op (op_bin op) (sn_E F a c X _ f h1) (sn_E F b c X _ f h2)) fun σ H Q q => ?_
      obtain ⟨ι, env, S, re, sr, g⟩ := q
      unfold evE at g
      refine got_E re sr g fun ι1 H1 d v S1 st re1 sr1 r g1 => ?_
      refine got_E re1 sr1 g1 fun ι2 H2 d2 v2 S2 st2 re2 sr2 r2 g2 => ?_
      exact ⟨ι2, S2, d, d2, sr2, Rep.step st2 _ _ r, r2, g2⟩
    · cases h
  | .neg a, c, X, ex, f, h => by
    unfold ckE at h
    split at h
    · refine PE.imp (pe_un un_neg (sn_E F a c X _ f h)) fun σ H Q q => ?_
      obtain ⟨ι, env, S, re, sr, g⟩ := q
      unfold evE at g
      refine got_E re sr g fun ι1 H1 d v S1 st re1 sr1 r g1 => ?_
      split at g1
      · rename_i i
        exact ⟨i, rep_int r, got_val g1 sr1 (to_int _)⟩
      · exact (got_bad g1).elim
    · cases h
  | .not a, c, X, ex, f, h => by
    unfold ckE at h
    split at h
    · refine PE.imp (pe_notT (sn_E F a c X _ f h)) fun σ H Q q => ?_
      obtain ⟨ι, env, S, re, sr, g⟩ := q
      unfold evE at g
      unfold truR at g
      obtain ⟨b, S1, e1, g1⟩ := got_bnd g
      obtain ⟨d, S2, e2, e3⟩ := bnd_eq_ok e1
      refine ⟨ι, env, S, re, sr, d, S2, e2, fun ι1 H1 v st sr1 r => ?_⟩
      split at e3
      · rename_i b' eb
        cases e3
        exact ⟨b, tru_of sr1 r eb, got_val (got_step st g1) sr1 (to_bl _)⟩
      · cases e3
    · cases h
  | .and es, c, X, ex, f, h => by
    unfold ckE at h
    split at h
    · refine PE.imp (sn_and F es c X _ _ f h) fun σ H Q q => ?_
      obtain ⟨ι, env, S, re, sr, g⟩ := q
      unfold evE at g
      exact ⟨ι, env, S, re, sr, g⟩
    · cases h
  | .or es, c, X, ex, f, h => by
    unfold ckE at h
    split at h
    · refine PE.imp (sn_or F es c X _ _ f h) fun σ H Q q => ?_
      obtain ⟨ι, env, S, re, sr, g⟩ := q
      unfold evE at g
      exact ⟨ι, env, S, re, sr, g⟩
    · cases h
  | .cmp op a b, c, X, ex, f, h => by
    unfold ckE at h
    split at h
    · simp only [Bool.and_eq_true, decide_eq_true_eq] at h
      obtain ⟨⟨rfl, h1⟩, h2⟩ := h
      refine PE.imp (pe_cmpR (op_cmp f.un op) (sn_E F a c X _ f h1) (sn_E F b c X _ f h2) (nomark _ (coOp_in op) (coOp_notIn op))) fun σ H Q q => ?_
      obtain ⟨ι, env, S, re, sr, g⟩ := q
      unfold evE at g
      refine got_E re sr g fun ι1 H1 d v S1 st re1 sr1 r g1 => ?_
      refine got_E re1 sr1 g1 fun ι2 H2 d2 v2 S2 st2 re2 sr2 r2 g2 => ?_
      exact ⟨ι2, S2, d, d2, sr2, Rep.step st2 _ _ r, r2, g2⟩
    · cases h
  | .ite k a b, c, X, ex, f, h => by
    unfold ckE at h
    split at h
    · simp only [Bool.and_eq_true] at h
      obtain ⟨⟨h0, h1⟩, h2⟩ := h
      refine PE.imp (pe_ifExp (sn_T F k c X _ f h0 (sn_E F k c X _ f h0)) (sn_E F a c X _ f h1) (sn_E F b c X _ f h2)) fun σ H Q q => ?_
      obtain ⟨ι, env, S, re, sr, g⟩ := q
      unfold evE at g
      refine got_B (f := fun env S => truR (evE F k env S)) re sr g fun ι1 H1 d S1 st re1 sr1 g1 => ?_
      cases d with
      | true => exact ⟨ι1, env, S1, re1, sr1, g1⟩
      | false => exact ⟨ι1, env, S1, re1, sr1, g1⟩
    · cases h
  | .idx a b, c, X, ex, f, h => by
    unfold ckE at h
    split at h
    · simp only [Bool.and_eq_true] at h
      refine PE.imp (pe_ix ix_S (sn_E F a c X _ f h.1) (sn_E F b c X _ f h.2) (ck_plainIx h.2)) fun σ H Q q => ?_
      obtain ⟨ι, env, S, re, sr, g⟩ := q
      unfold evE at g
      refine got_E re sr g fun ι1 H1 d v S1 st re1 sr1 r g1 => ?_
      refine got_E re1 sr1 g1 fun ι2 H2 d2 v2 S2 st2 re2 sr2 r2 g2 => ?_
      exact ⟨ι2, S2, d, d2, sr2, Rep.step st2 _ _ r, r2, g2⟩
    · cases h
  | .slc a lo hi, c, X, ex, f, h => by
    unfold ckE at h
    split at h
    · rename_i v l hh p1 p2
      simp only [Bool.and_eq_true] at h
      obtain ⟨⟨h0, h1⟩, h2⟩ := h
      have po : ∀ (o : Option Expr) (e : E), (match o with | none => isAbs e | some x => ckE c e x) = true → (∀ x, o = some x → ckE c e x = true → PE X x (RdE X.K F e)) →
          PO X o (fun σ H Q => ∃ ι env S, REnv X.K ι H env σ ∧ SR X.K ι S H ∧ Got X.K ι H (if isAbs e = true then .ok none S else optI (evE F e env S)) (fun _ _ a b => a = b) Q) := by
        intro o e ho hp
        cases o with
        | none =>
          have e1 : isAbs e = true := ho
          refine ⟨fun pins s σ H Q I q => po_none.run pins s σ H Q I ?_⟩
          obtain ⟨ι, env, S, re, sr, g⟩ := q
          rw [if_pos e1] at g
          exact got_ok g ι H none Step.refl sr rfl
        | some x =>
          have hx : ckE c e x = true := ho
          refine ⟨fun pins s σ H Q I q => (po_some (hp x rfl hx)).run pins s σ H Q I ?_⟩
          obtain ⟨ι, env, S, re, sr, g⟩ := q
          have e1 : ¬ isAbs e = true := by
            cases e <;> first | exact Bool.false_ne_true | (simp [ckE] at hx)
          rw [if_neg e1] at g
          unfold optI at g
          refine got_E re sr g fun ι1 H1 d v S1 st re1 sr1 r g1 => ?_
          split at g1
          · rename_i i
            exact ⟨i, rep_int r, got_ok g1 ι1 H1 _ Step.refl sr1 rfl⟩
          · exact (got_bad g1).elim
      refine PE.imp (pe_slice sl_S (sn_E F a c X _ f h0) (po l lo h1 fun x _ hx => sn_E F lo c X x f hx) (po hh hi h2 fun x _ hx => sn_E F hi c X x f hx)) fun σ H Q q => ?_
      obtain ⟨ι, env, S, re, sr, g⟩ := q
      unfold evE at g
      refine got_E re sr g fun ι1 H1 d v S1 st re1 sr1 r g1 => ?_
      obtain ⟨lo', S2, e2, g2⟩ := got_bnd g1
      refine ⟨ι1, env, S1, re1, sr1, lo', S2, e2, fun ι2 H2 l2 st2 sr2 hl => ?_⟩
      subst hl
      obtain ⟨hi', S3, e3, g3⟩ := got_bnd (got_step st2 g2)
      refine ⟨ι2, env, S2, re1.step st2, sr2, hi', S3, e3, fun ι3 H3 l3 st3 sr3 hl => ?_⟩
      subst hl
      exact ⟨ι3, S3, d, sr3, Rep.step (st2.trans st3) _ _ r, got_step st3 g3⟩
    · cases h
  | .absent, c, X, ex, f, h => by unfold ckE at h; cases h
  | .call g es, c, X, ex, f, h => by
    unfold ckE at h
    split at h
    · rename_i x p fs pos
      simp only [Bool.and_eq_true, decide_eq_true_eq] at h
      obtain ⟨⟨⟨h0, rfl⟩, h2⟩, h3⟩ := h
      obtain ⟨gl, gd⟩ := gl_in f h2
      obtain ⟨fa, fd, ps, k, hm, hk, ok, room, bi, _, hlen⟩ := (f.fns g h0).ex
      cases fs with
      | nil =>
        refine PE.imp (pe_call0 ok room gl hm hk bi .nil pass0 gd) fun σ H Q q => ?_
        obtain ⟨ι, env, S, re, sr, gg⟩ := q
        unfold evE at gg
        cases es with
        | cons _ _ => simp [ckEs] at h3
        | nil =>
          unfold evEs at gg
          rw [bnd_ok] at gg
          exact got_call sr .nil hlen gg
      | cons e0 fs =>
        have hst : noStar e0 = true := by
          cases es with
          | nil => simp [ckEs] at h3
          | cons e1 es1 =>
            unfold ckEs at h3
            rw [Bool.and_eq_true] at h3
            exact ck_star h3.1
        have hpl := back_plain (pos := pos) (env := X.env) h3
        rw [star_each hst] at hpl
        refine PE.imp (pe_call ok room gl hm hk bi .nil pass0 (sn_Es F es c X _ f h3) gd (star_each hst) (by unfold backTo at hpl ⊢; rw [List.map_cons, List.any_cons, Bool.or_eq_false_iff] at hpl; exact hpl.2)) fun σ H Q q => ?_
        obtain ⟨ι, env, S, re, sr, gg⟩ := q
        unfold evE at gg
        refine got_Es re sr gg fun ι1 H1 ds vs S1 st re1 sr1 r g1 => ?_
        rw [List.append_nil]
        exact got_call sr1 r hlen g1
    · cases h
  | .callk g es ks perm, c, X, ex, f, h => by
    unfold ckE at h
    split at h
    · rename_i x p fs kws pos
      simp only [Bool.and_eq_true, decide_eq_true_eq] at h
      obtain ⟨⟨⟨⟨⟨h0, rfl⟩, h2⟩, h3⟩, h4⟩, h5⟩ := h
      obtain ⟨gl, gd⟩ := gl_in f h2
      obtain ⟨fa, fd, ps, k, hm, hk, ok, room, bi, kb, hlen⟩ := (f.fns g h0).ex
      split at h3
      · rename_i ns hns
        have hin : (fs.length, ns, perm) ∈ ((c.kw.filter fun q => q.1 == g).map (·.2)) := List.mem_map.mpr ⟨_, List.mem_filter.mpr ⟨of_decide_eq_true h3, by simp⟩, rfl⟩
        have kb' := kb _ hin
        have lenk : ∀ {ι : List Addr} {H : Hp} {S S' : Store} {env : Env} {zs : List D} {ws : List V}, evEs F ks env S = .ok zs S' → Reps X.K ι H zs ws → ws.length = ns.length := fun {ι H S S' env zs ws} e r => by
          rw [← r.len, evEs_len e, ckKs_len h5, kw_len hns]
        cases fs with
        | nil =>
          refine PE.imp (pe_kw0 ok room gl gd hm hk kb' (sn_Ks F ks c X kws f h5) hns) fun σ H Q q => ?_
          obtain ⟨ι, env, S, re, sr, gg⟩ := q
          unfold evE at gg
          cases es with
          | cons _ _ => simp [ckEs] at h4
          | nil =>
            rw [show evEs F .nil env S = .ok [] S from by rw [evEs], bnd_ok] at gg
            obtain ⟨zs, S1, e1, g1⟩ := got_bnd gg
            refine ⟨ι, env, S, re, sr, zs, S1, e1, fun ι1 H1 ws st sr1 r => ?_⟩
            have hw := lenk e1 r
            exact ⟨hw, got_call sr1 (reps_perm r perm fun i hi => by rw [hw]; have := kb'.lt i hi; simpa using this) hlen (got_step st g1)⟩
        | cons e0 fs =>
          have hst : noStar e0 = true := by
            cases es with
            | nil => simp [ckEs] at h4
            | cons e1 es1 =>
              unfold ckEs at h4
              rw [Bool.and_eq_true] at h4
              exact ck_star h4.1
          refine PE.imp (pe_kw ok room gl gd hm hk kb' (sn_Es F es c X _ f h4) (sn_Ks F ks c X kws f h5) hns hst (back_plain h4)) fun σ H Q q => ?_
          obtain ⟨ι, env, S, re, sr, gg⟩ := q
          unfold evE at gg
          obtain ⟨ds, S1, e1, g1⟩ := got_bnd gg
          refine ⟨ι, env, S, re, sr, ds, S1, e1, fun ι1 H1 vs st sr1 r => ?_⟩
          obtain ⟨zs, S2, e2, g2⟩ := got_bnd (got_step st g1)
          refine ⟨ι1, env, S1, re.step st, sr1, zs, S2, e2, fun ι2 H2 ws st2 sr2 r2 => ?_⟩
          have hw := lenk e2 r2
          have hv : vs.length = (e0 :: fs).length := by rw [← r.len, evEs_len e1, ckEs_len h4]
          exact ⟨hv, hw, got_call sr2 (reps_perm ((Reps.step st2 _ _ r).append r2) perm fun i hi => by rw [List.length_append, hw, hv]; exact kb'.lt i hi) hlen (got_step st2 g2)⟩
      · cases h3
    · cases h
  | .prim p es, c, X, ex, f, h => by
    unfold ckE at h
    split at h
    · rename_i x px e0 fs pos
      simp only [Bool.and_eq_true, decide_eq_true_eq] at h
      obtain ⟨⟨rfl, h2⟩, h3⟩ := h
      obtain ⟨gl, hm, hn, gd⟩ := bl_of f h2
      have hst : noStar e0 = true := by
        cases es with
        | nil => simp [ckEs] at h3
        | cons e1 es1 =>
          unfold ckEs at h3
          rw [Bool.and_eq_true] at h3
          exact ck_star h3.1
      have hpl := back_plain (pos := pos) (env := X.env) h3
      rw [star_each hst] at hpl
      have hpl2 : (backTo pos (starEach fs X.env)).any (·.1) = false := by
        unfold backTo at hpl ⊢
        rw [List.map_cons, List.any_cons, Bool.or_eq_false_iff] at hpl
        exact hpl.2
      have pa := sn_Es F es c X _ f h3
      have rd : ∀ (p : Pr) σ H Q, RdE X.K F (.prim p es) σ H Q → RdEs X.K F es σ H fun vs H1 => PrS X.K p vs H1 Q := fun p σ H Q q => by
        obtain ⟨ι, env, S, re, sr, gg⟩ := q
        unfold evE at gg
        exact got_Es re sr gg fun ι1 H1 ds vs S1 st re1 sr1 r g1 => ⟨ι1, S1, ds, sr1, r, g1⟩
      have bt := boot_pr p
      cases p with
      | abs => exact PE.imp (pe_callB pr_abs gl hm bt pa hn gd (star_each hst) hpl2) (rd _)
      | int => exact PE.imp (pe_callTy pr_int gl hm bt pa hn gd (star_each hst) hpl2) (rd _)
      | len => exact PE.imp (pe_callB pr_len gl hm bt pa hn gd (star_each hst) hpl2) (rd _)
      | max => exact PE.imp (pe_callB (pr_max f.calm) gl hm bt pa hn gd (star_each hst) hpl2) (rd _)
      | min => exact PE.imp (pe_callB (pr_min f.calm) gl hm bt pa hn gd (star_each hst) hpl2) (rd _)
      | tuple => exact PE.imp (pe_callTy pr_tuple gl hm bt pa hn gd (star_each hst) hpl2) (rd _)
      | list => exact PE.imp (pe_callTy pr_list gl hm bt pa hn gd (star_each hst) hpl2) (rd _)
      | any => exact PE.imp (pe_callB (pr_any f.calm) gl hm bt pa hn gd (star_each hst) hpl2) (rd _)
    · cases h
  | .isin t a, c, X, ex, f, h => by
    unfold ckE at h
    split at h
    · rename_i x px e0 y py pos
      simp only [Bool.and_eq_true, decide_eq_true_eq] at h
      obtain ⟨⟨⟨⟨rfl, h2⟩, rfl⟩, h4⟩, h5⟩ := h
      obtain ⟨gl, hm, hn, gd⟩ := bl_of f h2
      obtain ⟨gl2, hm2, hn2, gd2⟩ := bl_of f h4
      have hst := ck_star h5
      refine PE.imp (pe_callB call_isi gl hm boot_isi (pa_cons (sn_E F a c X e0 f h5) (pa_cons (pe_bltn (v := .ty (tyN t)) gl2 hm2 (boot_ty t) rfl hn2 gd2) pa_nil) (star_each hst)) hn gd (star_each hst) rfl) fun σ H Q q => ?_
      obtain ⟨ι, env, S, re, sr, gg⟩ := q
      unfold evE at gg
      refine got_E re sr gg fun ι1 H1 d v S1 st re1 sr1 r g1 => ?_
      unfold ofB at g1
      split at g1
      · rename_i b eb
        exact ⟨v, _, _, _, b, rfl, .ty _, ty_of sr1 r, kit_ty (kit_is eb), got_val g1 sr1 (to_bl _)⟩
      · exact (got_bad g1).elim
    · cases h
  | .meth m o es, c, X, ex, f, h => by
    unfold ckE at h
    split at h
    · rename_i e0 n p fs pos
      simp only [Bool.and_eq_true, decide_eq_true_eq] at h
      obtain ⟨⟨⟨⟨⟨rfl, h2⟩, h3⟩, h4⟩, h5⟩, h6⟩ := h
      have rv : ∀ {d : D} {S : Store} {ι : List Addr} {H : Hp} {v : V}, SR X.K ι S H → Rep X.K ι H d v → recvOk m d S = true → tyV X.K "list" v H := fun {d S ι H v} sr r e => by
        unfold recvOk at e
        split at e
        · split at e
          · rename_i el
            obtain ⟨a, xs, rfl, _, q, _⟩ := rep_loc_lst sr r el
            exact .inl ⟨rfl, xs, SqL.of q⟩
          · cases e
        · cases e
      have base := base_of h4 (mtN m) X.env
      cases fs with
      | nil =>
        have rd : ∀ σ H Q, RdE X.K F (.meth m o es) σ H Q → RdE X.K F o σ H fun x H1 => tyV X.K "list" x H1 ∧ MtS X.K m x [] H1 Q := fun σ H Q q => by
          obtain ⟨ι, env, S, re, sr, gg⟩ := q
          unfold evE at gg
          refine got_E re sr gg fun ι1 H1 d v S1 st re1 sr1 r g1 => ?_
          rcases got_ite g1 with ⟨hr, g1⟩ | ⟨_, g1⟩
          · cases es with
            | cons _ _ => simp [ckEs] at h3
            | nil =>
              rw [show evEs F .nil env S1 = .ok [] S1 from by rw [evEs], bnd_ok] at g1
              exact ⟨rv sr1 r hr, ι1, S1, d, [], sr1, r, .nil, g1⟩
          · exact (got_bad g1).elim
        cases m with
        | append => exact PE.imp (pe_bm0 PySem.F.plainAttrs_list PySem.F.slot_list_append PySem.F.type_list_append mt_app (sn_E F o c X e0 f h2) base h5) rd
        | pop => exact PE.imp (pe_bm0 PySem.F.plainAttrs_list PySem.F.slot_list_pop PySem.F.type_list_pop mt_popS (sn_E F o c X e0 f h2) base h5) rd
        | reverse => exact PE.imp (pe_bm0 PySem.F.plainAttrs_list PySem.F.slot_list_reverse PySem.F.type_list_reverse mt_rev (sn_E F o c X e0 f h2) base h5) rd
      | cons e1 fs =>
        have hst : noStar e1 = true := by
          cases es with
          | nil => simp [ckEs] at h3
          | cons e2 es1 =>
            unfold ckEs at h3
            rw [Bool.and_eq_true] at h3
            exact ck_star h3.1
        have hpl := back_plain (pos := pos) (env := X.env) h3
        have hfew : ((backTo pos (starEach (e1 :: fs) X.env)).all (fun x => !x.1) && (backToKw pos (keywordEach [] X.env)).all (fun x => x.1.isSome)
            && decide ((e1 :: fs).length + ([] : List Keyword).length + (if ([] : List Keyword).isEmpty then 0 else 1) < 30)) = true := by
          have a1 : (backTo pos (starEach (e1 :: fs) X.env)).all (fun x => !x.1) = true := by
            rw [List.all_eq_true]
            intro x hx
            have := List.any_eq_false.mp hpl x hx
            simpa using this
          rw [a1]
          have a2 : (e1 :: fs).length + ([] : List Keyword).length + (if ([] : List Keyword).isEmpty then 0 else 1) < 30 := by
            show (e1 :: fs).length + 0 + 0 < 30
            omega
          rw [decide_eq_true a2]
          rfl
        rw [star_each hst] at hpl
        have hpl2 : (backTo pos (starEach fs X.env)).any (·.1) = false := by
          unfold backTo at hpl ⊢
          rw [List.map_cons, List.any_cons, Bool.or_eq_false_iff] at hpl
          exact hpl.2
        have pa := sn_Es F es c X _ f h3
        have rd : ∀ σ H Q, RdE X.K F (.meth m o es) σ H Q → RdE X.K F o σ H fun x H1 => tyV X.K "list" x H1 ∧ RdEs X.K F es σ H1 fun xs H2 => MtS X.K m x xs H2 Q := fun σ H Q q => by
          obtain ⟨ι, env, S, re, sr, gg⟩ := q
          unfold evE at gg
          refine got_E re sr gg fun ι1 H1 d v S1 st re1 sr1 r g1 => ?_
          rcases got_ite g1 with ⟨hr, g1⟩ | ⟨_, g1⟩
          · refine ⟨rv sr1 r hr, got_Es re1 sr1 g1 fun ι2 H2 ds vs S2 st2 re2 sr2 r2 g2 => ?_⟩
            exact ⟨ι2, S2, d, ds, sr2, Rep.step st2 _ _ r, r2, g2⟩
          · exact (got_bad g1).elim
        cases m with
        | append => exact PE.imp (pe_bm PySem.F.plainAttrs_list PySem.F.slot_list_append PySem.F.type_list_append mt_app (sn_E F o c X e0 f h2) pa base hfew h5 (star_each hst) hpl2) rd
        | pop => exact PE.imp (pe_bm PySem.F.plainAttrs_list PySem.F.slot_list_pop PySem.F.type_list_pop mt_popS (sn_E F o c X e0 f h2) pa base hfew h5 (star_each hst) hpl2) rd
        | reverse => exact PE.imp (pe_bm PySem.F.plainAttrs_list PySem.F.slot_list_reverse PySem.F.type_list_reverse mt_rev (sn_E F o c X e0 f h2) pa base hfew h5 (star_each hst) hpl2) rd
    · cases h
  | .lc elt t it cs own, c, X, ex, f, h => by
    unfold ckE at h
    split at h
    · rename_i el tg iter ifs as scope pos
      simp only [Bool.and_eq_true, decide_eq_true_eq] at h
      obtain ⟨⟨⟨⟨⟨⟨⟨⟨rfl, h1⟩, h2⟩, h3⟩, h4⟩, h5⟩, h6⟩, h7⟩, h8⟩ := h
      obtain ⟨ok, hg, hsl⟩ := lc_ok t own c X tg scope f h2 h3 h4 h5
      have hi : PI X tg iter (RdI X.K F it) := sn_It F it c X tg iter f h1
      have ht : ∀ (s : Shared) (H : Hp) (C : Addr) (cl : List (Str × Addr)) (fp : List Addr), PTs (X.blk s H scope (compEnvC scope cl C X.env) fp) ifs (RdB X.K fun e s => evTs F cs e s) := fun s H C cl fp => sn_Ts F cs _ _ ifs (f.blk s H scope C cl fp) h6 h7
      have he : ∀ (s : Shared) (H : Hp) (C : Addr) (cl : List (Str × Addr)) (fp : List Addr), PE (X.blk s H scope (compEnvC scope cl C X.env) fp) el (RdE X.K F elt) := fun s H C cl fp => sn_E F elt _ _ el (f.blk s H scope C cl fp) h8
      have hown : (ownP c.N own).map (·.2) = own := by unfold ownP; rw [List.map_map]; exact List.map_id' own
      have := pe_lc (pos := pos) f.calm (by rw [f.N]; exact f.nd) hi ok hg ht he (ckIt_fold h1 X.env)
      rw [hown] at this
      exact PE.imp this fun σ H Q q => lc_read hsl q
    · cases h
theorem sn_Es (F : Fns) : ∀ (es : Es) (c : Cn) (X : Cx) (xs : List Expr), Fits c F X → ckEs c es xs = true → PA X xs (RdEs X.K F es)
  | .nil, c, X, [], f, h => by
    refine PA.imp pa_nil fun σ H Q q => ?_
    obtain ⟨ι, env, S, re, sr, g⟩ := q
    unfold evEs at g
    exact got_ok g ι H [] Step.refl sr Reps.nil
  | .nil, c, X, _ :: _, f, h => by simp [ckEs] at h
  | .cons _ _, c, X, [], f, h => by simp [ckEs] at h
  | .cons e es, c, X, x :: xs, f, h => by
    unfold ckEs at h
    rw [Bool.and_eq_true] at h
    refine PA.imp (pa_cons (sn_E F e c X x f h.1) (sn_Es F es c X xs f h.2) (star_each (ck_star h.1))) fun σ H Q q => ?_
    obtain ⟨ι, env, S, re, sr, g⟩ := q
    unfold evEs at g
    refine got_E re sr g fun ι1 H1 d v S1 st re1 sr1 r g1 => ?_
    refine got_Es re1 sr1 g1 fun ι2 H2 d2 v2 S2 st2 re2 sr2 r2 g2 => ?_
    exact got_ok g2 ι2 H2 _ Step.refl sr2 (.cons (Rep.step st2 _ _ r) r2)
theorem sn_Ks (F : Fns) : ∀ (es : Es) (c : Cn) (X : Cx) (xs : List Keyword), Fits c F X → ckKs c es xs = true → PK X xs (RdEs X.K F es)
  | .nil, c, X, [], f, h => by
    refine PK.imp pk_nil fun σ H Q q => ?_
    obtain ⟨ι, env, S, re, sr, g⟩ := q
    unfold evEs at g
    exact got_ok g ι H [] Step.refl sr Reps.nil
  | .nil, c, X, _ :: _, f, h => by simp [ckKs] at h
  | .cons _ _, c, X, [], f, h => by simp [ckKs] at h
  | .cons e es, c, X, ⟨none, x, p⟩ :: xs, f, h => by simp [ckKs] at h
  | .cons e es, c, X, ⟨some n, x, p⟩ :: xs, f, h => by
    unfold ckKs at h
    rw [Bool.and_eq_true] at h
    refine PK.imp (pk_cons (sn_E F e c X x f h.1) (sn_Ks F es c X xs f h.2)) fun σ H Q q => ?_
    obtain ⟨ι, env, S, re, sr, g⟩ := q
    unfold evEs at g
    refine got_E re sr g fun ι1 H1 d v S1 st re1 sr1 r g1 => ?_
    refine got_Es re1 sr1 g1 fun ι2 H2 d2 v2 S2 st2 re2 sr2 r2 g2 => ?_
    exact got_ok g2 ι2 H2 _ Step.refl sr2 (.cons (Rep.step st2 _ _ r) r2)
theorem sn_It (F : Fns) : ∀ (it : It) (c : Cn) (X : Cx) (tg ex : Expr), Fits c F X → ckIt c it ex = true → PI X tg ex (RdI X.K F it)
  | .seq e, c, X, tg, ex, f, h => by
    unfold ckIt at h
    have pe := sn_E F e c X ex f h
    refine ⟨fun pins s σ H R I q => ?_⟩
    obtain ⟨ι, env, S, w, S1, re, sr, ew, q⟩ := q
    unfold evIt at ew
    obtain ⟨d, S2, e1, e2⟩ := bnd_eq_ok ew
    have rd : ∀ {P : VK}, (∀ ι1 H1 v, Step ι H ι1 H1 → SR X.K ι1 S2 H1 → Rep X.K ι1 H1 d v → P v H1) → RdE X.K F e σ H P := fun {P} hp => ⟨ι, env, S, re, sr, d, S2, e1, hp⟩
    cases d with
    | tup ds =>
      cases e2
      exact (pi_tup (tg := tg) pe).run pins s σ H R I (rd fun ι1 H1 v st sr1 r => by
        obtain ⟨a, xs, rfl, hq, rr⟩ := rep_tup r
        exact ⟨a, rfl, ⟨xs, hq⟩, q ι1 H1 _ st sr1 (walks_tup hq rr)⟩)
    | rls ds =>
      cases e2
      exact (pi_list (tg := tg) pe).run pins s σ H R I (rd fun ι1 H1 v st sr1 r => by
        obtain ⟨a, xs, rfl, hq, rr⟩ := rep_rls r
        exact ⟨a, rfl, ⟨xs, hq.seq⟩, q ι1 H1 _ st sr1 (walks_rls hq rr)⟩)
    | loc l =>
      dsimp only at e2
      split at e2
      · rename_i ds el
        cases e2
        exact (pi_list (tg := tg) pe).run pins s σ H R I (rd fun ι1 H1 v st sr1 r => by
          obtain ⟨a, xs, rfl, ha, hq, rr⟩ := rep_loc_lst sr1 r el
          exact ⟨a, rfl, ⟨xs, SqL.of hq⟩, q ι1 H1 _ st sr1 (walks_lst ha)⟩)
      · cases e2
    | _ => cases e2
  | .range1 e, c, X, tg, ex, f, h => by
    unfold ckIt at h
    split at h
    · simp only [Bool.and_eq_true, decide_eq_true_eq] at h
      obtain ⟨⟨rfl, h2⟩, h3⟩ := h
      obtain ⟨gl, hm, hn, gd⟩ := bl_of f h2
      refine PI.imp (pi_range1 gl hm (pa_cons (sn_E F e c X _ f h3) pa_nil (star_each (ck_star h3))) (star_each (ck_star h3))) fun σ H R q => ?_
      obtain ⟨ι, env, S, w, S1, re, sr, ew, q⟩ := q
      unfold evIt at ew
      obtain ⟨d, S2, e1, e2⟩ := bnd_eq_ok ew
      refine ⟨ι, env, S, re, sr, d, S2, e1, fun ι1 H1 v st sr1 r => ?_⟩
      split at e2
      · rename_i n
        split at e2
        · rename_i hb
          cases e2
          exact ⟨n, by rw [rep_int r], hb.lo, hb.hi, q ι1 H1 _ st sr1 (walks_rng 0 n.toNat)⟩
        · cases e2
      · cases e2
    · cases h
  | .range2 e e', c, X, tg, ex, f, h => by
    unfold ckIt at h
    split at h
    · simp only [Bool.and_eq_true, decide_eq_true_eq] at h
      obtain ⟨⟨⟨rfl, h2⟩, h3⟩, h4⟩ := h
      obtain ⟨gl, hm, hn, gd⟩ := bl_of f h2
      have s1 := ck_star h3
      have s2 := ck_star h4
      refine PI.imp (pi_range2 gl hm (pa_cons (sn_E F e c X _ f h3) (pa_cons (sn_E F e' c X _ f h4) pa_nil (star_each s2)) (star_each s1)) (by rw [star_each s1, star_each s2]; rfl) (by rw [star_each s2]; rfl)) fun σ H R q => ?_
      obtain ⟨ι, env, S, w, S1, re, sr, ew, q⟩ := q
      unfold evIt at ew
      obtain ⟨d, S2, e1, e2⟩ := bnd_eq_ok ew
      refine ⟨ι, env, S, re, sr, d, S2, e1, fun ι1 H1 v st sr1 r => ?_⟩
      obtain ⟨d2, S3, e3, e4⟩ := bnd_eq_ok e2
      refine ⟨ι1, env, S2, re.step st, sr1, d2, S3, e3, fun ι2 H2 v2 st2 sr2 r2 => ?_⟩
      split at e4
      · rename_i i j
        split at e4
        · rename_i hb
          cases e4
          exact ⟨i, j, by rw [rep_int r, rep_int r2], ⟨hb.1.lo, hb.1.hi, hb.2.lo, hb.2.hi⟩, q ι2 H2 _ (st.trans st2) sr2 (walks_rng i (j - i).toNat)⟩
        · cases e4
      · cases e4
    · cases h
theorem sn_Ts (F : Fns) : ∀ (cs : Es) (c : Cn) (X : Cx) (ifs : List Expr), Fits c F X → ckEs c cs ifs = true → ifs.length ≤ 1 → PTs X ifs (RdB X.K fun e s => evTs F cs e s)
  | .nil, c, X, [], f, h, _ => by
    refine ⟨fun pins s' σ H' Q I q => pts_nil.run pins s' σ H' Q I ?_⟩
    obtain ⟨ι, env, S, re, sr, g⟩ := q
    dsimp only at g
    rw [evTs] at g
    exact got_ok g ι H' true Step.refl sr rfl
  | .nil, c, X, _ :: _, f, h, _ => by simp [ckEs] at h
  | .cons _ _, c, X, [], f, h, _ => by simp [ckEs] at h
  | .cons _ _, c, X, _ :: _ :: _, f, h, h7 => by simp at h7
  | .cons e es, c, X, [x], f, h, _ => by
    rw [ckEs, Bool.and_eq_true] at h
    refine ⟨fun pins s' σ H' Q I q => (pts_one (sn_T F e c X x f h.1 (sn_E F e c X x f h.1))).run pins s' σ H' Q I ?_⟩
    obtain ⟨ι, env, S, re, sr, g⟩ := q
    dsimp only at g
    rw [evTs] at g
    exact ⟨ι, env, S, re, sr, g⟩
theorem sn_and (F : Fns) : ∀ (es : Es) (c : Cn) (X : Cx) (xs : List Expr) (pos : Pos), Fits c F X → ckEs c es xs = true → PE X (.BoolOp .And xs pos) (RdV X.K (evAnd F es))
  | .nil, c, X, xs, pos, f, h => by
    refine PE.imp (t := fun _ _ _ => False) ⟨fun _ _ _ _ _ _ z => z.elim⟩ fun σ H Q q => ?_
    obtain ⟨ι, env, S, re, sr, g⟩ := q
    unfold evAnd at g
    exact got_bad g
  | .cons e es, c, X, [], pos, f, h => by simp [ckEs] at h
  | .cons e .nil, c, X, x :: y :: xs, pos, f, h => by simp [ckEs] at h
  | .cons e (.cons e' es), c, X, [x], pos, f, h => by simp [ckEs] at h
  | .cons e .nil, c, X, [x], pos, f, h => by
    unfold ckEs at h
    rw [Bool.and_eq_true] at h
    refine PE.imp (pe_one (sn_E F e c X x f h.1)) fun σ H Q q => ?_
    obtain ⟨ι, env, S, re, sr, g⟩ := q
    rw [ev_and1] at g
    exact ⟨ι, env, S, re, sr, g⟩
  | .cons e (.cons e' es), c, X, x :: y :: xs, pos, f, h => by
    have h' : ckE c e x = true ∧ ckEs c (.cons e' es) (y :: xs) = true := by
      rw [ckEs, Bool.and_eq_true] at h
      exact h
    refine PE.imp (pe_andT (sn_E F e c X x f h'.1) (sn_and F (.cons e' es) c X (y :: xs) pos f h'.2)) fun σ H Q q => ?_
    obtain ⟨ι, env, S, re, sr, g⟩ := q
    rw [ev_and2] at g
    refine got_E re sr g fun ι1 H1 d v S1 st re1 sr1 r g1 => ?_
    split at g1
    · rename_i et
      exact ⟨true, tru_of sr1 r et, ι1, env, S1, re1, sr1, g1⟩
    · rename_i et
      exact ⟨false, tru_of sr1 r et, got_val g1 sr1 r⟩
    · exact (got_bad g1).elim
theorem sn_or (F : Fns) : ∀ (es : Es) (c : Cn) (X : Cx) (xs : List Expr) (pos : Pos), Fits c F X → ckEs c es xs = true → PE X (.BoolOp .Or xs pos) (RdV X.K (evOr F es))
  | .nil, c, X, xs, pos, f, h => by
    refine PE.imp (t := fun _ _ _ => False) ⟨fun _ _ _ _ _ _ z => z.elim⟩ fun σ H Q q => ?_
    obtain ⟨ι, env, S, re, sr, g⟩ := q
    unfold evOr at g
    exact got_bad g
  | .cons e es, c, X, [], pos, f, h => by simp [ckEs] at h
  | .cons e .nil, c, X, x :: y :: xs, pos, f, h => by simp [ckEs] at h
  | .cons e (.cons e' es), c, X, [x], pos, f, h => by simp [ckEs] at h
  | .cons e .nil, c, X, [x], pos, f, h => by
    unfold ckEs at h
    rw [Bool.and_eq_true] at h
    refine PE.imp (pe_one (sn_E F e c X x f h.1)) fun σ H Q q => ?_
    obtain ⟨ι, env, S, re, sr, g⟩ := q
    rw [ev_or1] at g
    exact ⟨ι, env, S, re, sr, g⟩
  | .cons e (.cons e' es), c, X, x :: y :: xs, pos, f, h => by
    have h' : ckE c e x = true ∧ ckEs c (.cons e' es) (y :: xs) = true := by
      rw [ckEs, Bool.and_eq_true] at h
      exact h
    refine PE.imp (pe_orT (sn_E F e c X x f h'.1) (sn_or F (.cons e' es) c X (y :: xs) pos f h'.2)) fun σ H Q q => ?_
    obtain ⟨ι, env, S, re, sr, g⟩ := q
    rw [ev_or2] at g
    refine got_E re sr g fun ι1 H1 d v S1 st re1 sr1 r g1 => ?_
    split at g1
    · rename_i et
      exact ⟨false, tru_of sr1 r et, ι1, env, S1, re1, sr1, g1⟩
    · rename_i et
      exact ⟨true, tru_of sr1 r et, got_val g1 sr1 r⟩
    · exact (got_bad g1).elim
theorem sn_T (F : Fns) : ∀ (e : E) (c : Cn) (X : Cx) (ex : Expr), Fits c F X → ckE c e ex = true → PE X ex (RdE X.K F e) → PT X ex (RdB X.K fun env S => truR (evE F e env S))
  | .not a, c, X, ex, f, h, _ => by
    unfold ckE at h
    split at h
    · refine PT.imp (pt_not (sn_T F a c X _ f h (sn_E F a c X _ f h))) fun σ H Q q => ?_
      obtain ⟨ι, env, S, re, sr, g⟩ := q
      dsimp only at g
      rw [evE] at g
      obtain ⟨b, S1, e1, g1⟩ := got_not g
      exact ⟨ι, env, S, re, sr, b, S1, e1, fun ι1 H1 b' st sr1 hb => by subst hb; exact got_ok g1 ι1 H1 _ st sr1 rfl⟩
    · cases h
  | .and es, c, X, ex, f, h, _ => by
    unfold ckE at h
    split at h
    · refine PT.imp (sn_Tand F es c X _ _ f h).pt fun σ H Q q => ?_
      obtain ⟨ι, env, S, re, sr, g⟩ := q
      dsimp only at g
      rw [evE] at g
      exact ⟨ι, env, S, re, sr, g⟩
    · cases h
  | .or es, c, X, ex, f, h, _ => by
    unfold ckE at h
    split at h
    · refine PT.imp (sn_Tor F es c X _ _ f h).pt fun σ H Q q => ?_
      obtain ⟨ι, env, S, re, sr, g⟩ := q
      dsimp only at g
      rw [evE] at g
      exact ⟨ι, env, S, re, sr, g⟩
    · cases h
  | .cmp op a b, c, X, ex, f, h, _ => by
    unfold ckE at h
    split at h
    · simp only [Bool.and_eq_true, decide_eq_true_eq] at h
      obtain ⟨⟨rfl, h1⟩, h2⟩ := h
      refine PT.imp (pt_cmpR (op_cmp f.un op) (sn_E F a c X _ f h1) (sn_E F b c X _ f h2) (nomark _ (coOp_in op) (coOp_notIn op))) fun σ H Q q => ?_
      obtain ⟨ι, env, S, re, sr, g⟩ := q
      dsimp only at g
      rw [evE] at g
      unfold truR at g
      rw [bnd_assoc] at g
      refine got_E re sr g fun ι1 H1 d v S1 st re1 sr1 r g1 => ?_
      rw [bnd_assoc] at g1
      refine got_E re1 sr1 g1 fun ι2 H2 d2 v2 S2 st2 re2 sr2 r2 g2 => ?_
      refine ⟨ι2, S2, d, d2, sr2, Rep.step st2 _ _ r, r2, ?_⟩
      obtain ⟨z, S3, e3, g3⟩ := got_bnd g2
      refine ⟨z, S3, e3, fun ι3 H3 v3 st3 sr3 r3 => ?_⟩
      unfold ofB at e3
      split at e3
      · cases e3
        exact ⟨_, rep_bl r3, got_ok g3 ι3 H3 _ st3 sr3 rfl⟩
      · cases e3
    · cases h
  | .ite k a b, c, X, ex, f, h, _ => by
    unfold ckE at h
    split at h
    · simp only [Bool.and_eq_true] at h
      obtain ⟨⟨h0, h1⟩, h2⟩ := h
      refine PT.imp (pt_ite (sn_T F k c X _ f h0 (sn_E F k c X _ f h0)) (sn_T F a c X _ f h1 (sn_E F a c X _ f h1)) (sn_T F b c X _ f h2 (sn_E F b c X _ f h2))) fun σ H Q q => ?_
      obtain ⟨ι, env, S, re, sr, g⟩ := q
      dsimp only at g
      rw [evE] at g
      unfold truR at g
      rw [bnd_assoc] at g
      refine got_B (f := fun env S => truR (evE F k env S)) re sr g fun ι1 H1 d S1 st re1 sr1 g1 => ?_
      cases d with
      | true => exact ⟨ι1, env, S1, re1, sr1, g1⟩
      | false => exact ⟨ι1, env, S1, re1, sr1, g1⟩
    · cases h
  | .var i, c, X, ex, f, h, pe => PT.imp (pt_truth pe (plain_of h (by rfl))) fun _ _ _ => tru_read
  | .cint i, c, X, ex, f, h, pe => PT.imp (pt_truth pe (plain_of h (by rfl))) fun _ _ _ => tru_read
  | .cbl i, c, X, ex, f, h, pe => PT.imp (pt_truth pe (plain_of h (by rfl))) fun _ _ _ => tru_read
  | .cnon, c, X, ex, f, h, pe => PT.imp (pt_truth pe (plain_of h (by rfl))) fun _ _ _ => tru_read
  | .cstr i, c, X, ex, f, h, pe => PT.imp (pt_truth pe (plain_of h (by rfl))) fun _ _ _ => tru_read
  | .tup i, c, X, ex, f, h, pe => PT.imp (pt_truth pe (plain_of h (by rfl))) fun _ _ _ => tru_read
  | .lst i, c, X, ex, f, h, pe => PT.imp (pt_truth pe (plain_of h (by rfl))) fun _ _ _ => tru_read
  | .bin i a b, c, X, ex, f, h, pe => PT.imp (pt_truth pe (plain_of h (by rfl))) fun _ _ _ => tru_read
  | .neg i, c, X, ex, f, h, pe => PT.imp (pt_truth pe (plain_of h (by rfl))) fun _ _ _ => tru_read
  | .idx i a, c, X, ex, f, h, pe => PT.imp (pt_truth pe (plain_of h (by rfl))) fun _ _ _ => tru_read
  | .slc i a b, c, X, ex, f, h, pe => PT.imp (pt_truth pe (plain_of h (by rfl))) fun _ _ _ => tru_read
  | .absent, c, X, ex, f, h, pe => PT.imp (pt_truth pe (plain_of h (by rfl))) fun _ _ _ => tru_read
  | .call i a, c, X, ex, f, h, pe => PT.imp (pt_truth pe (plain_of h (by rfl))) fun _ _ _ => tru_read
  | .callk i a b d, c, X, ex, f, h, pe => PT.imp (pt_truth pe (plain_of h (by rfl))) fun _ _ _ => tru_read
  | .prim i a, c, X, ex, f, h, pe => PT.imp (pt_truth pe (plain_of h (by rfl))) fun _ _ _ => tru_read
  | .isin i a, c, X, ex, f, h, pe => PT.imp (pt_truth pe (plain_of h (by rfl))) fun _ _ _ => tru_read
  | .meth i a b, c, X, ex, f, h, pe => PT.imp (pt_truth pe (plain_of h (by rfl))) fun _ _ _ => tru_read
  | .lc i a b d g, c, X, ex, f, h, pe => PT.imp (pt_truth pe (plain_of h (by rfl))) fun _ _ _ => tru_read
theorem sn_Tand (F : Fns) : ∀ (es : Es) (c : Cn) (X : Cx) (xs : List Expr) (pos : Pos), Fits c F X → ckEs c es xs = true → PW X (.BoolOp .And xs pos) (RdB X.K fun env S => truR (evAnd F es env S))
  | .nil, c, X, xs, pos, f, h => by
    refine PW.imp (t := fun _ _ _ => False) ⟨fun _ _ _ _ _ _ _ z => z.elim⟩ fun σ H Q q => ?_
    obtain ⟨ι, env, S, re, sr, g⟩ := q
    dsimp only at g
    rw [evAnd] at g
    exact got_bad g
  | .cons e es, c, X, [], pos, f, h => by simp [ckEs] at h
  | .cons e .nil, c, X, x :: y :: xs, pos, f, h => by simp [ckEs] at h
  | .cons e (.cons e' es), c, X, [x], pos, f, h => by simp [ckEs] at h
  | .cons e .nil, c, X, [x], pos, f, h => by
    rw [ckEs, Bool.and_eq_true] at h
    refine PW.imp (pw_and1 (sn_T F e c X x f h.1 (sn_E F e c X x f h.1))) fun σ H Q q => ?_
    obtain ⟨ι, env, S, re, sr, g⟩ := q
    dsimp only at g
    rw [ev_and1] at g
    exact ⟨ι, env, S, re, sr, g⟩
  | .cons e (.cons e' es), c, X, x :: y :: xs, pos, f, h => by
    have h' : ckE c e x = true ∧ ckEs c (.cons e' es) (y :: xs) = true := by
      rw [ckEs, Bool.and_eq_true] at h
      exact h
    refine PW.imp (pw_and (sn_T F e c X x f h'.1 (sn_E F e c X x f h'.1)) (sn_Tand F (.cons e' es) c X (y :: xs) pos f h'.2)) fun σ H Q q => ?_
    obtain ⟨ι, env, S, re, sr, g⟩ := q
    dsimp only at g
    rw [ev_and2] at g
    unfold truR at g
    rw [bnd_assoc] at g
    obtain ⟨d, S1, e1, g1⟩ := got_bnd g
    cases hb : truD d S1 with
    | none => rw [hb] at g1; exact (got_bad g1).elim
    | some b =>
      rw [hb] at g1
      refine ⟨ι, env, S, re, sr, b, S1, by unfold truR; dsimp only; rw [e1, bnd_ok, hb], fun ι1 H1 b' st sr1 hbb => ?_⟩
      subst hbb
      cases b with
      | true => exact ⟨ι1, env, S1, re.step st, sr1, got_step st g1⟩
      | false =>
        dsimp only at g1
        rw [bnd_ok, hb] at g1
        exact got_ok g1 ι1 H1 false st sr1 rfl
theorem sn_Tor (F : Fns) : ∀ (es : Es) (c : Cn) (X : Cx) (xs : List Expr) (pos : Pos), Fits c F X → ckEs c es xs = true → PW X (.BoolOp .Or xs pos) (RdB X.K fun env S => truR (evOr F es env S))
  | .nil, c, X, xs, pos, f, h => by
    refine PW.imp (t := fun _ _ _ => False) ⟨fun _ _ _ _ _ _ _ z => z.elim⟩ fun σ H Q q => ?_
    obtain ⟨ι, env, S, re, sr, g⟩ := q
    dsimp only at g
    rw [evOr] at g
    exact got_bad g
  | .cons e es, c, X, [], pos, f, h => by simp [ckEs] at h
  | .cons e .nil, c, X, x :: y :: xs, pos, f, h => by simp [ckEs] at h
  | .cons e (.cons e' es), c, X, [x], pos, f, h => by simp [ckEs] at h
  | .cons e .nil, c, X, [x], pos, f, h => by
    rw [ckEs, Bool.and_eq_true] at h
    refine PW.imp (pw_or1 (sn_T F e c X x f h.1 (sn_E F e c X x f h.1))) fun σ H Q q => ?_
    obtain ⟨ι, env, S, re, sr, g⟩ := q
    dsimp only at g
    rw [ev_or1] at g
    exact ⟨ι, env, S, re, sr, g⟩
  | .cons e (.cons e' es), c, X, x :: y :: xs, pos, f, h => by
    have h' : ckE c e x = true ∧ ckEs c (.cons e' es) (y :: xs) = true := by
      rw [ckEs, Bool.and_eq_true] at h
      exact h
    refine PW.imp (pw_or (sn_T F e c X x f h'.1 (sn_E F e c X x f h'.1)) (sn_Tor F (.cons e' es) c X (y :: xs) pos f h'.2)) fun σ H Q q => ?_
    obtain ⟨ι, env, S, re, sr, g⟩ := q
    dsimp only at g
    rw [ev_or2] at g
    unfold truR at g
    rw [bnd_assoc] at g
    obtain ⟨d, S1, e1, g1⟩ := got_bnd g
    cases hb : truD d S1 with
    | none => rw [hb] at g1; exact (got_bad g1).elim
    | some b =>
      rw [hb] at g1
      refine ⟨ι, env, S, re, sr, b, S1, by unfold truR; dsimp only; rw [e1, bnd_ok, hb], fun ι1 H1 b' st sr1 hbb => ?_⟩
      subst hbb
      cases b with
      | false => exact ⟨ι1, env, S1, re.step st, sr1, got_step st g1⟩
      | true =>
        dsimp only at g1
        rw [bnd_ok, hb] at g1
        exact got_ok g1 ι1 H1 true st sr1 rfl
end
end
end SX
namespace SX
open PySem PySem.Spec PyProof.Rows L2

/-! ### the checker of statements -/
/-- how a, b = x, y is stored -/
def swp (sc : Scope) (ts vs : List Expr) : Option (Option (List Str)) :=
  if (!(ts.length == 2 || ts.length == 3) || vs.length != ts.length) = true then some none
  else if (vs.any fun | .Starred .. => true | _ => false) = true then some none
  else
    let line := (ts.head?.map (·.pos.line)).getD 0
    let names := ts.filterMap fun
      | .Name id pos => if (sc.names.lookup id == some .local && pos.line == line) = true then some id else none
      | _ => none
    if (names.length != ts.length || names.eraseDups.length != names.length) = true then some none
    else if vs.all (foldedForSure 8) = true then some none
    else if vs.all (constantsAlone 8) = true then none
    else some (some names)
theorem swp_ok {env : PySem.Env} {ts vs : List Expr} {k k2 : Nat} {p p2 : Pos} {r : Option (List Str)} (hk : env.scope.kind = .function) (h : swp env.scope ts vs = some r) :
    swappedStores [.Tuple ts k p] (.Tuple vs k2 p2) env = pure r := by
  have hb : env.blockKind = .function := by unfold Env.blockKind; rw [hk]; rfl
  unfold swp at h
  have e0 : swappedStores [.Tuple ts k p] (.Tuple vs k2 p2) env =
      (if (!(ts.length == 2 || ts.length == 3) || vs.length != ts.length || env.blockKind != .function) = true then (pure none : Sem (Option (List Str)))
       else if (vs.any fun | .Starred .. => true | _ => false) = true then pure none
       else
        let line := (ts.head?.map (·.pos.line)).getD 0
        let names := ts.filterMap fun
          | .Name id pos => if (env.kindOf id == some .local && pos.line == line) = true then some id else none
          | _ => none
        if (names.length != ts.length || names.eraseDups.length != names.length) = true then pure none
        else if vs.all (foldedForSure 8) = true then pure none
        else if vs.all (constantsAlone 8) = true then (do unsupported "assign.tuple-of-constant-expressions:order-of-the-stores"; pure (some names))
        else pure (some names)) := rfl
  rw [e0, hb]
  have e1 : (ScopeKind.function != ScopeKind.function) = false := by decide
  rw [e1, Bool.or_false]
  split at h
  · rename_i c1
    cases h
    rw [if_pos c1]
  · rename_i c1
    rw [if_neg c1]
    split at h
    · rename_i c2
      cases h
      rw [if_pos c2]
    · rename_i c2
      rw [if_neg c2]
      dsimp only at h ⊢
      split at h
      · rename_i c3
        cases h
        exact if_pos c3
      · rename_i c3
        refine (if_neg c3).trans ?_
        split at h
        · rename_i c4
          cases h
          rw [if_pos c4]
        · rename_i c4
          rw [if_neg c4]
          split at h
          · cases h
          · rename_i c5
            cases h
            rw [if_neg c5]
            rfl

def notComp : Expr → Bool
  | .ListComp _ _ _ _ => false
  | .SetComp _ _ _ _ => false
  | .DictComp _ _ _ _ _ => false
  | _ => true
def isName : Expr → Bool
  | .Name _ _ => true
  | _ => false
def parN (c : Cn) : List Nat → List Expr → List Str → Bool
  | [], [], [] => true
  | i :: is, .Name x _ :: es, y :: ys => decide (c.N[i]? = some x) && decide (x = y) && decide (c.sc.names.lookup x = some .local) && parN c is es ys
  | _, _, _ => false
mutual
def ckS (c : Cn) : St → Stmt → Bool
  | .asg t e, s => match s with
    | .Assign [tg] v _ => ckT c t tg && ckE c e v && (match tg, v with
        | .Tuple ts _ _, .Tuple vs _ _ => decide (swp c.sc ts vs = some none)
        | .Tuple _ _ _, v => notComp v
        | _, _ => true)
    | _ => false
  | .par is es, s => match s with
    | .Assign [.Tuple ts _ _] (.Tuple vs _ _) _ => (match swp c.sc ts vs with
        | some (some ns) => parN c is ts ns
        | _ => false) && decide is.Nodup && decide (is.length = 2 ∨ is.length = 3) && ckEs c es vs
    | _ => false
  | .setS o i v, s => match s with
    | .Assign [.Subscript o' i' _] v' _ => ckE c o o' && ckE c i i' && ckE c v v'
    | _ => false
  | .aug i op e, s => match s with
    | .AugAssign (.Name x _) o v _ => decide (c.N[i]? = some x) && locB c.sc x && decide (o = boOp op) && decide (op = .add ∨ op = .sub) && ckE c e v
    | _ => false
  | .expr e, s => match s with
    | .Expr v _ => ckE c e v && notComp v
    | _ => false
  | .ret e, s => match s with
    | .Return (some v) _ => ckE c e v
    | _ => false
  | .retN, s => match s with
    | .Return none _ => true
    | _ => false
  | .ite k a b, s => match s with
    | .If t x y _ => ckE c k t && ckSs c a x && ckSs c b y
    | _ => false
  | .wh k b, s => match s with
    | .While t x [] _ => ckE c k t && ckSs c b x
    | _ => false
  | .fo t it b, s => match s with
    | .For tg iter x [] _ => ckT c t tg && ckIt c it iter && ckSs c b x
    | _ => false
  | .brk, s => match s with
    | .Break _ => true
    | _ => false
  | .cont, s => match s with
    | .Continue _ => true
    | _ => false
  | .pass, s => match s with
    | .Pass _ => true
    | _ => false
def ckSs (c : Cn) : Ss → List Stmt → Bool
  | .nil, [] => true
  | .cons s ss, x :: xs => ckS c s x && ckSs c ss xs
  | _, _ => false
end
end SX
namespace SX
open PySem PySem.Spec PyProof.Rows L2
noncomputable section
open Classical

def GotS (K : PySem.W.Frag) (ι : List Addr) (H : Hp) (r : Res (Flow × Env)) (E : Ends) : Prop :=
  ∃ fl env' S', r = .ok (fl, env') S' ∧ ∀ ι' H' σ', Step ι H ι' H' → SR K ι' S' H' → REnv K ι' H' env' σ' → match fl with
    | .next => E.nx σ' H'
    | .brk => E.bk σ' H'
    | .cont => E.ct σ' H'
    | .ret d => ∀ v, Rep K ι' H' d v → E.rt v H'
def RdS (K : PySem.W.Frag) (f : Env → Store → Res (Flow × Env)) : TS := fun E σ H => ∃ ι env S, REnv K ι H env σ ∧ SR K ι S H ∧ GotS K ι H (f env S) E
section
variable {K : PySem.W.Frag} {ι ι' : List Addr} {H H' : Hp} {α : Type} {Z : Ends} {env : Env} {σ : L2.St} {S : Store} {F : Fns}
theorem gs_step {r : Res (Flow × Env)} (st : Step ι H ι' H') (g : GotS K ι H r Z) : GotS K ι' H' r Z := by
  obtain ⟨fl, e, S', h1, h⟩ := g
  exact ⟨fl, e, S', h1, fun ι2 H2 σ2 s2 => h ι2 H2 σ2 (st.trans s2)⟩
theorem gs_bnd {r : Res α} {k : α → Store → Res (Flow × Env)} (g : GotS K ι H (r.bnd k) Z) : ∃ c S1, r = .ok c S1 ∧ GotS K ι H (k c S1) Z := by
  obtain ⟨fl, e, S', h1, h⟩ := g
  obtain ⟨c, S1, e1, e2⟩ := bnd_eq_ok h1
  exact ⟨c, S1, e1, fl, e, S', e2, h⟩
theorem gs_bad (g : GotS K ι H .bad Z) : False := by
  obtain ⟨_, _, _, e, _⟩ := g
  cases e
theorem gs_nx {env' : Env} (g : GotS K ι H (.ok (.next, env') S) Z) (s : SR K ι S H) (r : REnv K ι H env' σ) : Z.nx σ H := by
  obtain ⟨_, _, _, e, h⟩ := g
  cases e
  exact h ι H σ Step.refl s r
theorem gs_E {e : E} {k : D → Store → Res (Flow × Env)} (re : REnv K ι H env σ) (s : SR K ι S H) (g : GotS K ι H ((evE F e env S).bnd k) Z)
    {P : VK} (h : ∀ ι1 H1 d v S1, Step ι H ι1 H1 → REnv K ι1 H1 env σ → SR K ι1 S1 H1 → Rep K ι1 H1 d v → GotS K ι1 H1 (k d S1) Z → P v H1) : RdE K F e σ H P := by
  obtain ⟨d, S1, e1, g1⟩ := gs_bnd g
  exact ⟨ι, env, S, re, s, d, S1, e1, fun ι1 H1 v st s1 r => h ι1 H1 d v S1 st (re.step st) s1 r (gs_step st g1)⟩
theorem gs_Es {e : Es} {k : List D → Store → Res (Flow × Env)} (re : REnv K ι H env σ) (s : SR K ι S H) (g : GotS K ι H ((evEs F e env S).bnd k) Z)
    {P : List V → Hp → Prop} (h : ∀ ι1 H1 d v S1, Step ι H ι1 H1 → REnv K ι1 H1 env σ → SR K ι1 S1 H1 → Reps K ι1 H1 d v → GotS K ι1 H1 (k d S1) Z → P v H1) : RdEs K F e σ H P := by
  obtain ⟨d, S1, e1, g1⟩ := gs_bnd g
  exact ⟨ι, env, S, re, s, d, S1, e1, fun ι1 H1 v st s1 r => h ι1 H1 d v S1 st (re.step st) s1 r (gs_step st g1)⟩
theorem gs_B {f : Env → Store → Res Bool} {k : Bool → Store → Res (Flow × Env)} (re : REnv K ι H env σ) (s : SR K ι S H) (g : GotS K ι H ((f env S).bnd k) Z)
    {P : Bool → Hp → Prop} (h : ∀ ι1 H1 b S1, Step ι H ι1 H1 → REnv K ι1 H1 env σ → SR K ι1 S1 H1 → GotS K ι1 H1 (k b S1) Z → P b H1) : RdB K f σ H P := by
  obtain ⟨d, S1, e1, g1⟩ := gs_bnd g
  exact ⟨ι, env, S, re, s, d, S1, e1, fun ι1 H1 v st s1 r => by subst r; exact h ι1 H1 d S1 st (re.step st) s1 (gs_step st g1)⟩
end

/-! ### while -/
theorem whL_ex {c : Env → Store → Res Bool} {b : Env → Store → Res (Flow × Env)} {env : Env} {S : Store} {r : Flow × Env} {S' : Store} (h : whL c b env S = .ok r S') : ∃ n, whN c b n env S = .ok r S' := by
  unfold whL at h
  split at h
  · exact ⟨_, h⟩
  · cases h
theorem wh_read {K : PySem.W.Frag} {F : Fns} {c : E} {b : Ss} {D : Ends} {σ : L2.St} {H : Hp} (h : RdS K (exS F (.wh c b)) D σ H) :
    tWhile (RdB K fun e s => truR (evE F c e s)) (RdS K (exSs F b)) D σ H := by
  obtain ⟨ι, env, S, re, sr, g⟩ := h
  rw [exS] at g
  obtain ⟨fl, env', S', e, q⟩ := g
  obtain ⟨n, en⟩ := whL_ex e
  refine ⟨fun m σ H => ∃ ι env S, REnv K ι H env σ ∧ SR K ι S H ∧ GotS K ι H (whN (fun e s => truR (evE F c e s)) (fun e s => exSs F b e s) m env S) D, ⟨n, ι, env, S, re, sr, fl, env', S', en, q⟩, ?_⟩
  rintro m σ1 H1 ⟨ι1, env1, S1, re1, sr1, g1⟩
  cases m with
  | zero => unfold whN at g1; exact (gs_bad g1).elim
  | succ m =>
    unfold whN at g1
    refine gs_B re1 sr1 g1 fun ι2 H2 k S2 st2 re2 sr2 g2 => ?_
    cases k with
    | false =>
      rw [if_neg Bool.false_ne_true] at g2 ⊢
      exact gs_nx g2 sr2 re2
    | true =>
      rw [if_pos rfl] at g2 ⊢
      refine ⟨fun σ' H' => ∃ ι env S, REnv K ι H' env σ' ∧ SR K ι S H' ∧ GotS K ι H' (whN (fun e s => truR (evE F c e s)) (fun e s => exSs F b e s) m env S) D, fun σ' H' hn => ⟨m, Nat.lt_succ_self m, hn⟩, ι2, env1, S2, re2, sr2, ?_⟩
      obtain ⟨⟨fl2, env2⟩, S3, e3, g3⟩ := gs_bnd g2
      refine ⟨fl2, env2, S3, e3, fun ι4 H4 σ4 st4 sr4 re4 => ?_⟩
      have g4 := gs_step st4 g3
      cases fl2 with
      | next => exact ⟨ι4, env2, S3, re4, sr4, g4⟩
      | cont => exact ⟨ι4, env2, S3, re4, sr4, g4⟩
      | brk => exact gs_nx g4 sr4 re4
      | ret d =>
        intro v r
        obtain ⟨_, _, _, e5, q5⟩ := g4
        cases e5
        exact q5 ι4 H4 σ4 Step.refl sr4 re4 v r

/-! ### for -/
theorem fo_read {K : PySem.W.Frag} {F : Fns} {t : Tg} {it : It} {b : Ss} {D : Ends} {σ : L2.St} {H : Hp} (h : RdS K (exS F (.fo t it b)) D σ H) :
    tFor (RdI K F it) (TgS K t) (RdS K (exSs F b)) D σ H := by
  obtain ⟨ι, env, S, re, sr, g⟩ := h
  rw [exS] at g
  obtain ⟨w, S1, ew, g1⟩ := gs_bnd g
  refine ⟨ι, env, S, w, S1, re, sr, ew, fun ι1 H1 J st1 sr1 wk => ?_⟩
  have re1 := re.step st1
  have g2 := gs_step st1 g1
  let Wi : Nat → L2.St → Hp → Prop := fun i σc Hc => ∃ ιc envc Sc, Step ι1 H1 ιc Hc ∧ REnv K ιc Hc envc σc ∧ SR K ιc Sc Hc ∧ i ≤ w.items.length ∧ GotS K ιc Hc (forL w t (fun e s => exSs F b e s) (w.items.drop i) envc Sc) D
  refine ⟨fun i m σc Hc => m = w.items.length - i ∧ Wi i σc Hc, ⟨w.items.length, by simp, ι1, env, S1, Step.refl, re1, sr1, Nat.zero_le _, by simpa using g2⟩, ?_⟩
  rintro i m σc Hc ⟨rfl, ιc, envc, Sc, stc, rec_, src, hi, gL⟩
  by_cases hlt : i < w.items.length
  · refine .inr ?_
    rw [List.drop_eq_getElem_cons hlt] at gL
    unfold forL at gL
    split at gL
    · rename_i here
      split at gL
      · rename_i env1 e1
        refine ⟨wk.go i ιc Hc Sc stc.toMono src here hlt, Wi (i + 1), fun σ' H' hw => ⟨w.items.length - (i + 1), by omega, rfl, hw⟩, fun x Hy hy => ?_⟩
        obtain ⟨rd, sty, sry⟩ := wk.yld i ιc Hc Sc x Hy w.items[i] stc.toMono src here (List.getElem?_eq_getElem hlt) hy
        refine ⟨ιc, Sc, envc, w.items[i], env1, rec_.step sty, sry, rd, e1, fun σ1 re2 _ => ⟨ιc, env1, Sc, re2, sry, ?_⟩⟩
        obtain ⟨⟨fl2, env2⟩, S3, e3, g3⟩ := gs_bnd (gs_step sty gL)
        refine ⟨fl2, env2, S3, e3, fun ι4 H4 σ4 st4 sr4 re4 => ?_⟩
        have g4 := gs_step st4 g3
        cases fl2 with
        | next => exact ⟨ι4, env2, S3, (stc.trans sty).trans st4, re4, sr4, hlt, g4⟩
        | cont => exact ⟨ι4, env2, S3, (stc.trans sty).trans st4, re4, sr4, hlt, g4⟩
        | brk => exact gs_nx g4 sr4 re4
        | ret d =>
          intro v r
          obtain ⟨_, _, _, e5, q5⟩ := g4
          cases e5
          exact q5 ι4 H4 σ4 Step.refl sr4 re4 v r
      · exact (gs_bad gL).elim
    · exact (gs_bad gL).elim
  · have hi2 : i = w.items.length := by omega
    subst hi2
    rw [List.drop_length] at gL
    unfold forL at gL
    split at gL
    · rename_i here
      exact .inl ⟨wk.stop _ ιc Hc _ stc.toMono src here (Nat.le_refl _), gs_nx gL src rec_⟩
    · exact (gs_bad gL).elim

/-! ### a, b = x, y -/
theorem parN_len {c : Cn} : ∀ {is : List Nat} {es : List Expr} {ns : List Str}, parN c is es ns = true → es.length = is.length ∧ ns.length = is.length
  | [], [], [], _ => ⟨rfl, rfl⟩
  | i :: is, e :: es, y :: ys, h => by
    cases e <;> first | (simp [parN] at h; done) | skip
    rw [parN] at h
    simp only [Bool.and_eq_true] at h
    obtain ⟨h1, h2⟩ := parN_len h.2
    exact ⟨by rw [List.length_cons, List.length_cons, h1], by rw [List.length_cons, List.length_cons, h2]⟩
  | [], [], _ :: _, h => by simp [parN] at h
  | [], _ :: _, _, h => by simp [parN] at h
  | _ :: _, [], _, h => by simp [parN] at h
  | _ :: _, e :: _, [], h => by cases e <;> simp [parN] at h
theorem parN_cons {c : Cn} {i : Nat} {is : List Nat} {es : List Expr} {ns : List Str} (h : parN c (i :: is) es ns = true) :
    ∃ x p es' ns', es = .Name x p :: es' ∧ ns = x :: ns' ∧ c.N[i]? = some x ∧ c.sc.names.lookup x = some .local ∧ parN c is es' ns' = true := by
  cases es with
  | nil => simp [parN] at h
  | cons e es =>
    cases ns with
    | nil => cases e <;> simp [parN] at h
    | cons y ys =>
      cases e <;> first | (simp [parN] at h; done) | skip
      rw [parN] at h
      simp only [Bool.and_eq_true, decide_eq_true_eq] at h
      obtain ⟨⟨⟨h1, rfl⟩, h3⟩, h4⟩ := h
      exact ⟨_, _, es, ys, rfl, rfl, h1, h3, h4⟩
theorem parN_nil {c : Cn} {es : List Expr} {ns : List Str} (h : parN c [] es ns = true) : es = [] ∧ ns = [] := by
  cases es with
  | nil => cases ns with
    | nil => exact ⟨rfl, rfl⟩
    | cons _ _ => simp [parN] at h
  | cons _ _ => simp [parN] at h
end
end SX
namespace SX
open PySem PySem.Spec PyProof.Rows L2
noncomputable section
open Classical

structure FitsS (c : Cn) (F : Fns) (X : Cx) : Prop where
  fits : Fits c F X
  fn : ∀ x, X.fn x = true
  kind : X.env.scope.kind = .function
theorem swaps_not {e : Expr} {o : Option Expr} {l : Nat} {env : PySem.Env} (h : notComp e = true) : swapsWith e o l env = pure false := by
  cases e <;> first | rfl | cases h
theorem swaps_sub {e o i : Expr} {p : Pos} {l : Nat} {env : PySem.Env} : swapsWithSole [.Subscript o i p] e l env = pure false := by
  cases e <;> rfl
theorem stores_sub {e o i : Expr} {p : Pos} {env : PySem.Env} : swappedStores [.Subscript o i p] e env = pure none := by
  cases e <;> rfl
/-- o[i] = v : the target's tree -/
theorem assign_sub {c : Cn} {e : E} {o i : Expr} {pos : Pos} {env : PySem.Env} (h : ckE c e i = true) : ∀ v, assign (.Subscript o i pos) env v = (do
      let ov ← holding [v] (eval o env)
      let iv ← holding [v, ov] (eval i env)
      standAt pos
      holding [v, ov, iv] (setItem ov iv v)
      release [v, ov, iv] []) := by
  intro v
  cases i <;> first | rfl | (cases e <;> simp [ckE] at h)
/-- name = value -/
theorem sn_set {F : Fns} {i : Nat} {e : E} {c : Cn} {X : Cx} {x : Str} {p pos : Pos} {v : Expr} (f : FitsS c F X) (h1 : ckT c (.nm i) (.Name x p) = true) (h2 : ckE c e v = true) :
    PS X (.Assign [.Name x p] v pos) (RdS X.K (exS F (.asg (.nm i) e))) := by
  have h1' := h1
  rw [ckT] at h1
  rw [Bool.and_eq_true, decide_eq_true_eq] at h1
  have hN : X.N.Nodup := by rw [f.fits.N]; exact f.fits.nd
  have hi : X.N[i]? = some x := by rw [f.fits.N]; exact h1.1
  have hx : Loc X.env.scope x := by rw [f.fits.sc]; exact loc_of h1.2
  have rd : ∀ D σ H, RdS X.K (exS F (.asg (.nm i) e)) D σ H → RdE X.K F e σ H fun v H1 => gName i v σ H1 D.nx := fun D σ H q => by
    obtain ⟨ι, env, S, re, sr, g⟩ := q
    rw [exS] at g
    refine gs_E re sr g fun ι1 H1 d v S1 st re1 sr1 r g1 => ?_
    rw [asgT] at g1
    exact gs_nx g1 sr1 (re1.set r)
  by_cases hc : notComp v = true
  · exact PS.imp (ps_set hN hi hx (sn_E F e c X v f.fits h2) (swaps_not hc) (.inl (f.fn x))) rd
  · cases v with
    | ListComp el gens scope vp =>
      by_cases hs : (X.env.blockKind == .function && X.env.kindOf x == some .local && p.line == vp.line && !(scope.names.any fun (n, k) => n == x && (k == .local || k == .cell))) = true
      · cases e <;> first | (simp [ckE] at h2; done) | skip
        rename_i elt t it cs own
        have h2' := h2
        unfold ckE at h2
        split at h2
        · rename_i el' tg iter ifs as scope' pos' heq
          cases heq
          simp only [Bool.and_eq_true, decide_eq_true_eq] at h2
          obtain ⟨⟨⟨⟨⟨⟨⟨⟨rfl, g1⟩, g2⟩, g3⟩, g4⟩, g5⟩, g6⟩, g7⟩, g8⟩ := h2
          obtain ⟨ok, hg, hsl⟩ := lc_ok t own c X tg scope f.fits g2 g3 g4 g5
          have hi2 : PI X tg iter (RdI X.K F it) := sn_It F it c X tg iter f.fits g1
          have ht : ∀ (s : Shared) (H : Hp) (C : Addr) (cl : List (Str × Addr)) (fp : List Addr), PTs (X.blk s H scope (compEnvC scope cl C X.env) fp) ifs (RdB X.K fun e s => evTs F cs e s) := fun s H C cl fp => sn_Ts F cs _ _ ifs (f.fits.blk s H scope C cl fp) g6 g7
          have he : ∀ (s : Shared) (H : Hp) (C : Addr) (cl : List (Str × Addr)) (fp : List Addr), PE (X.blk s H scope (compEnvC scope cl C X.env) fp) el (RdE X.K F elt) := fun s H C cl fp => sn_E F elt _ _ el (f.fits.blk s H scope C cl fp) g8
          have hown : (ownP c.N own).map (·.2) = own := by unfold ownP; rw [List.map_map]; exact List.map_id' own
          have hs' := hs
          simp only [Bool.and_eq_true, beq_iff_eq] at hs'
          have := ps_setLc (spos := pos) (py := p) f.fits.calm hN hi hs'.1.1.2 (show swapsWith (.ListComp el [⟨tg, iter, ifs, 0⟩] scope vp) (some (.Name x p)) pos.line X.env = pure true from (by
            show (pure (X.env.blockKind == .function && X.env.kindOf x == some .local && p.line == vp.line && !(scope.names.any fun (n, k) => n == x && (k == .local || k == .cell))) : Sem Bool) = pure true
            rw [hs])) hi2 ok hg ht he (ckIt_fold g1 X.env)
          rw [hown] at this
          refine PS.imp this fun D σ H q => ?_
          exact lc_read hsl (rd D σ H q)
        · cases h2
      · refine PS.imp (ps_set hN hi hx (sn_E F e c X _ f.fits h2) (show swapsWith (.ListComp el gens scope vp) (some (.Name x p)) pos.line X.env = pure false from (by
            show (pure (X.env.blockKind == .function && X.env.kindOf x == some .local && p.line == vp.line && !(scope.names.any fun (n, k) => n == x && (k == .local || k == .cell))) : Sem Bool) = pure false
            rw [Bool.not_eq_true] at hs
            rw [hs])) (.inl (f.fn x))) rd
    | SetComp _ _ _ _ => cases e <;> simp [ckE] at h2
    | DictComp _ _ _ _ _ => cases e <;> simp [ckE] at h2
    | _ => exact absurd rfl hc
theorem reps3 {K : PySem.W.Frag} {ι : List Addr} {H : Hp} {d e g : D} {xs : List V} (r : Reps K ι H [d, e, g] xs) : ∃ x y z, xs = [x, y, z] ∧ Rep K ι H d x ∧ Rep K ι H e y ∧ Rep K ι H g z := by
  obtain ⟨v, w, rfl, h1, h2⟩ := r.uncons
  obtain ⟨y, z, rfl, h3, h4⟩ := reps2 h2
  exact ⟨v, y, z, rfl, h1, h3, h4⟩
theorem sn_par {F : Fns} {is : List Nat} {es : Es} {c : Cn} {X : Cx} {ts vs : List Expr} {k k2 : Nat} {p p2 pos : Pos} {ns : List Str} (f : FitsS c F X) (h0 : swp c.sc ts vs = some (some ns)) (h1 : parN c is ts ns = true) (h2 : is.Nodup) (h3 : is.length = 2 ∨ is.length = 3)
    (h4 : ckEs c es vs = true) : PS X (.Assign [.Tuple ts k p] (.Tuple vs k2 p2) pos) (RdS X.K (exS F (.par is es))) := by
  have hN : X.N.Nodup := by rw [f.fits.N]; exact f.fits.nd
  have hw : swappedStores [.Tuple ts k p] (.Tuple vs k2 p2) X.env = pure (some ns) := swp_ok f.kind (by rw [f.fits.sc]; exact h0)
  have pa := sn_Es F es c X vs f.fits h4
  have lv : vs.length = ts.length := by
    unfold swp at h0
    split at h0
    · cases h0
    · rename_i c1
      simp only [Bool.not_eq_true, Bool.or_eq_false_iff, bne_eq_false_iff_eq] at c1
      exact c1.2
  have lt := (parN_len h1).1
  rcases h3 with h3 | h3
  · obtain ⟨i, j, rfl⟩ : ∃ i j, is = [i, j] := by
      match is, h3 with
      | [i, j], _ => exact ⟨i, j, rfl⟩
    obtain ⟨x, px, ts1, ns1, rfl, rfl, a1, a2, h1⟩ := parN_cons h1
    obtain ⟨y, py, ts2, ns2, rfl, rfl, b1, b2, h1⟩ := parN_cons h1
    obtain ⟨rfl, rfl⟩ := parN_nil h1
    obtain ⟨a, b, rfl⟩ : ∃ a b, vs = [a, b] := by
      match vs, lv with
      | [a, b], _ => exact ⟨a, b, rfl⟩
    have hij : i ≠ j := by
      intro e
      subst e
      simp at h2
    refine PS.imp (ps_par f.fits.calm hN (by rw [f.fits.N]; exact a1) (by rw [f.fits.N]; exact b1) hij (by rw [f.fits.sc]; exact a2) (by rw [f.fits.sc]; exact b2) pa hw) fun D σ H q => ?_
    obtain ⟨ι, env, S, re, sr, g⟩ := q
    rw [exS] at g
    refine gs_Es re sr g fun ι1 H1 ds vs S1 st re1 sr1 r g1 => ?_
    split at g1
    · rename_i env1 e1
      match ds, e1 with
      | [d1, d2], e1 =>
        obtain ⟨v, w, rfl, r1, r2⟩ := reps2 r
        simp only [setAll] at e1
        cases e1
        exact ⟨v, w, rfl, gs_nx g1 sr1 ((re1.set r1).set r2)⟩
      | [], e1 => simp [setAll] at e1
      | [_], e1 => simp [setAll] at e1
      | _ :: _ :: _ :: _, e1 => simp [setAll] at e1
    · exact (gs_bad g1).elim
  · obtain ⟨i, j, l, rfl⟩ : ∃ i j l, is = [i, j, l] := by
      match is, h3 with
      | [i, j, l], _ => exact ⟨i, j, l, rfl⟩
    obtain ⟨x, px, ts1, ns1, rfl, rfl, a1, a2, h1⟩ := parN_cons h1
    obtain ⟨y, py, ts2, ns2, rfl, rfl, b1, b2, h1⟩ := parN_cons h1
    obtain ⟨z, pz, ts3, ns3, rfl, rfl, c1, c2, h1⟩ := parN_cons h1
    obtain ⟨rfl, rfl⟩ := parN_nil h1
    obtain ⟨a, b, u, rfl⟩ : ∃ a b u, vs = [a, b, u] := by
      match vs, lv with
      | [a, b, u], _ => exact ⟨a, b, u, rfl⟩
    simp only [List.nodup_cons, List.mem_cons, not_or, List.not_mem_nil, not_false_eq_true, and_true] at h2
    refine PS.imp (ps_par3 f.fits.calm hN (by rw [f.fits.N]; exact a1) (by rw [f.fits.N]; exact b1) (by rw [f.fits.N]; exact c1) h2.1.1 h2.1.2 h2.2.1 (by rw [f.fits.sc]; exact a2) (by rw [f.fits.sc]; exact b2) (by rw [f.fits.sc]; exact c2) pa hw) fun D σ H q => ?_
    obtain ⟨ι, env, S, re, sr, g⟩ := q
    rw [exS] at g
    refine gs_Es re sr g fun ι1 H1 ds vs S1 st re1 sr1 r g1 => ?_
    split at g1
    · rename_i env1 e1
      match ds, e1 with
      | [d1, d2, d3], e1 =>
        obtain ⟨v, w, q, rfl, r1, r2, r3⟩ := reps3 r
        simp only [setAll] at e1
        cases e1
        exact ⟨v, w, q, rfl, gs_nx g1 sr1 (((re1.set r1).set r2).set r3)⟩
      | [], e1 => simp [setAll] at e1
      | [_], e1 => simp [setAll] at e1
      | [_, _], e1 => simp [setAll] at e1
      | _ :: _ :: _ :: _ :: _, e1 => simp [setAll] at e1
    · exact (gs_bad g1).elim

mutual
theorem sn_S (F : Fns) : ∀ (s : St) (c : Cn) (X : Cx) (x : Stmt), FitsS c F X → ckS c s x = true → PS X x (RdS X.K (exS F s))
  | .asg t e, c, X, x, f, h => by
    unfold ckS at h
    split at h
    · rename_i tg v pos
      simp only [Bool.and_eq_true] at h
      obtain ⟨⟨h1, h2⟩, h3⟩ := h
      cases t with
      | nm i =>
        have h1' := h1
        unfold ckT at h1'
        split at h1'
        · exact sn_set f h1 h2
        · cases h1'
      | tp ts =>
        have h1' := h1
        unfold ckT at h1'
        split at h1'
        · rename_i es k p
          have hg := pg_T f.fits.calm f.fits.N f.fits.nd f.fits.sc (.tp ts) _ h1 fun i _ x _ => .inl (f.fn x)
          have hst : swappedStores [.Tuple es k p] v X.env = pure none := by
            cases v with
            | Tuple vs k2 p2 => exact swp_ok f.kind (by rw [f.fits.sc]; exact of_decide_eq_true h3)
            | _ => rfl
          have hc : notComp v = true := by
            cases v <;> first | rfl | exact h3
          refine PS.imp (ps_asg (sn_E F e c X v f.fits h2) hg (by cases v <;> first | rfl | cases hc) hst) fun D σ H q => ?_
          obtain ⟨ι, env, S, re, sr, g⟩ := q
          rw [exS] at g
          refine gs_E re sr g fun ι1 H1 d v S1 st re1 sr1 r g1 => ?_
          split at g1
          · rename_i env1 e1
            exact ⟨ι1, S1, env, d, env1, re1, sr1, r, e1, fun σ' re' _ => gs_nx g1 sr1 re'⟩
          · exact (gs_bad g1).elim
        · cases h1'
    · cases h
  | .par is es, c, X, x, f, h => by
    unfold ckS at h
    split at h
    · simp only [Bool.and_eq_true, decide_eq_true_eq] at h
      obtain ⟨⟨⟨h1, h2⟩, h3⟩, h4⟩ := h
      split at h1
      · rename_i ns e0
        exact sn_par f e0 h1 h2 h3 h4
      · cases h1
    · cases h
  | .setS o i v, c, X, x, f, h => by
    unfold ckS at h
    split at h
    · simp only [Bool.and_eq_true] at h
      obtain ⟨⟨h1, h2⟩, h3⟩ := h
      refine PS.imp (ps_asg (sn_E F v c X _ f.fits h3) (pg_sub (sn_E F o c X _ f.fits h1) (sn_E F i c X _ f.fits h2) set_S (assign_sub h2)) swaps_sub stores_sub) fun D σ H q => ?_
      obtain ⟨ι, env, S, re, sr, g⟩ := q
      rw [exS] at g
      refine gs_E re sr g fun ι1 H1 d1 v1 S1 st1 re1 sr1 r1 g1 => ?_
      refine gs_E re1 sr1 g1 fun ι2 H2 d2 v2 S2 st2 re2 sr2 r2 g2 => ?_
      refine gs_E re2 sr2 g2 fun ι3 H3 d3 v3 S3 st3 re3 sr3 r3 g3 => ?_
      obtain ⟨u, S4, e4, g4⟩ := gs_bnd g3
      refine ⟨ι3, S3, d2, d3, d1, sr3, Rep.step st3 _ _ r2, r3, Rep.step (st2.trans st3) _ _ r1, u, S4, e4, fun ι4 H4 _ st4 sr4 _ => ?_⟩
      exact gs_nx (gs_step st4 g4) sr4 (re3.step st4)
    · cases h
  | .aug i op e, c, X, x, f, h => by
    unfold ckS at h
    split at h
    · rename_i y p o v pos
      simp only [Bool.and_eq_true, decide_eq_true_eq] at h
      obtain ⟨⟨⟨⟨h1, h2⟩, rfl⟩, h4⟩, h5⟩ := h
      have hN : X.N.Nodup := by rw [f.fits.N]; exact f.fits.nd
      have hi : X.N[i]? = some y := by rw [f.fits.N]; exact h1
      have hx : Loc X.env.scope y := by rw [f.fits.sc]; exact loc_of h2
      have rd : ∀ (fn : Int → Int → Int), (∀ x y z, augD op x y = some z → ∃ a b, x = .int a ∧ y = .int b ∧ z = .int (fn a b)) → ∀ D σ H, RdS X.K (exS F (.aug i op e)) D σ H → tAug i (RdE X.K F e) (ipI fn) D σ H := fun fn hop D σ H q => by
        obtain ⟨ι, env, S, re, sr, g⟩ := q
        rw [exS] at g
        split at g
        · rename_i d ed
          obtain ⟨w, ew, hw⟩ := re.2 i d ed
          refine ⟨w, ew, ?_⟩
          refine gs_E re sr g fun ι1 H1 d1 v1 S1 st1 re1 sr1 r1 g1 => ?_
          split at g1
          · rename_i z ez
            obtain ⟨a, b, rfl, rfl, rfl⟩ := hop _ _ _ ez
            exact ⟨a, b, rep_int hw, rep_int r1, gs_nx g1 sr1 (re1.set (to_int _))⟩
          · exact (gs_bad g1).elim
        · exact (gs_bad g).elim
      rcases h4 with rfl | rfl
      · exact PS.imp (ps_aug hN hi hx (sn_E F e c X v f.fits h5) ip_add (.inl (f.fn y))) (rd _ fun x y z hz => by
          unfold augD at hz
          split at hz <;> cases hz
          · exact ⟨_, _, rfl, rfl, rfl⟩
          · rename_i hp; cases hp)
      · exact PS.imp (ps_aug hN hi hx (sn_E F e c X v f.fits h5) ip_sub (.inl (f.fn y))) (rd _ fun x y z hz => by
          unfold augD at hz
          split at hz <;> cases hz
          · rename_i hp; cases hp
          · exact ⟨_, _, rfl, rfl, rfl⟩)
    · cases h
  | .expr e, c, X, x, f, h => by
    unfold ckS at h
    split at h
    · simp only [Bool.and_eq_true] at h
      refine PS.imp (ps_expr (sn_E F e c X _ f.fits h.1) (swaps_not h.2)) fun D σ H q => ?_
      obtain ⟨ι, env, S, re, sr, g⟩ := q
      rw [exS] at g
      exact gs_E re sr g fun ι1 H1 d1 v1 S1 st1 re1 sr1 r1 g1 => gs_nx g1 sr1 re1
    · cases h
  | .ret e, c, X, x, f, h => by
    unfold ckS at h
    split at h
    · refine PS.imp (ps_ret (sn_E F e c X _ f.fits h)) fun D σ H q => ?_
      obtain ⟨ι, env, S, re, sr, g⟩ := q
      rw [exS] at g
      refine gs_E re sr g fun ι1 H1 d1 v1 S1 st1 re1 sr1 r1 g1 => ?_
      obtain ⟨_, _, _, e5, q5⟩ := g1
      cases e5
      exact q5 ι1 H1 σ Step.refl sr1 re1 v1 r1
    · cases h
  | .retN, c, X, x, f, h => by
    unfold ckS at h
    split at h
    · refine PS.imp ps_retN fun D σ H q => ?_
      obtain ⟨ι, env, S, re, sr, g⟩ := q
      rw [exS] at g
      obtain ⟨_, _, _, e5, q5⟩ := g
      cases e5
      exact q5 ι H σ Step.refl sr re _ to_non
    · cases h
  | .ite k a b, c, X, x, f, h => by
    unfold ckS at h
    split at h
    · simp only [Bool.and_eq_true] at h
      obtain ⟨⟨h1, h2⟩, h3⟩ := h
      refine PS.imp (ps_if (sn_T F k c X _ f.fits h1 (sn_E F k c X _ f.fits h1)) (sn_Ss F a c X _ f h2) (sn_Ss F b c X _ f h3)) fun D σ H q => ?_
      obtain ⟨ι, env, S, re, sr, g⟩ := q
      rw [exS] at g
      refine gs_B (f := fun env S => truR (evE F k env S)) re sr g fun ι1 H1 b S1 st1 re1 sr1 g1 => ?_
      cases b with
      | true => exact ⟨ι1, env, S1, re1, sr1, g1⟩
      | false => exact ⟨ι1, env, S1, re1, sr1, g1⟩
    · cases h
  | .wh k b, c, X, x, f, h => by
    unfold ckS at h
    split at h
    · simp only [Bool.and_eq_true] at h
      exact PS.imp (ps_while (by rw [f.fits.xe]; exact PassesOwn.never) (sn_T F k c X _ f.fits h.1 (sn_E F k c X _ f.fits h.1)) (sn_Ss F b c X _ f h.2)) fun D σ H q => wh_read q
    · cases h
  | .fo t it b, c, X, x, f, h => by
    unfold ckS at h
    split at h
    · simp only [Bool.and_eq_true] at h
      obtain ⟨⟨h1, h2⟩, h3⟩ := h
      exact PS.imp (ps_for (by rw [f.fits.xe]; exact PassesOwn.never) f.fits.calm (sn_It F it c X _ _ f.fits h2) (pg_T f.fits.calm f.fits.N f.fits.nd f.fits.sc t _ h1 fun i _ x _ => .inl (f.fn x)) (sn_Ss F b c X _ f h3) (ckIt_fold h2 X.env)) fun D σ H q => fo_read q
    · cases h
  | .brk, c, X, x, f, h => by
    unfold ckS at h
    split at h
    · refine PS.imp ps_break fun D σ H q => ?_
      obtain ⟨ι, env, S, re, sr, g⟩ := q
      rw [exS] at g
      obtain ⟨_, _, _, e5, q5⟩ := g
      cases e5
      exact q5 ι H σ Step.refl sr re
    · cases h
  | .cont, c, X, x, f, h => by
    unfold ckS at h
    split at h
    · refine PS.imp ps_continue fun D σ H q => ?_
      obtain ⟨ι, env, S, re, sr, g⟩ := q
      rw [exS] at g
      obtain ⟨_, _, _, e5, q5⟩ := g
      cases e5
      exact q5 ι H σ Step.refl sr re
    · cases h
  | .pass, c, X, x, f, h => by
    unfold ckS at h
    split at h
    · refine PS.imp ps_pass fun D σ H q => ?_
      obtain ⟨ι, env, S, re, sr, g⟩ := q
      rw [exS] at g
      exact gs_nx g sr re
    · cases h
theorem sn_Ss (F : Fns) : ∀ (ss : Ss) (c : Cn) (X : Cx) (xs : List Stmt), FitsS c F X → ckSs c ss xs = true → PSs X xs (RdS X.K (exSs F ss))
  | .nil, c, X, [], f, h => by
    refine PSs.imp pss_nil fun D σ H q => ?_
    obtain ⟨ι, env, S, re, sr, g⟩ := q
    rw [exSs] at g
    exact gs_nx g sr re
  | .nil, c, X, _ :: _, f, h => by simp [ckSs] at h
  | .cons _ _, c, X, [], f, h => by simp [ckSs] at h
  | .cons s ss, c, X, x :: xs, f, h => by
    rw [ckSs, Bool.and_eq_true] at h
    refine PSs.imp (pss_cons (sn_S F s c X x f h.1) (sn_Ss F ss c X xs f h.2)) fun D σ H q => ?_
    obtain ⟨ι, env, S, re, sr, g⟩ := q
    rw [exSs] at g
    obtain ⟨⟨fl, env1⟩, S1, e1, g1⟩ := gs_bnd g
    refine ⟨ι, env, S, re, sr, fl, env1, S1, e1, fun ι1 H1 σ1 st sr1 re1 => ?_⟩
    have g2 := gs_step st g1
    cases fl with
    | next => exact ⟨ι1, env1, S1, re1, sr1, g2⟩
    | brk =>
      obtain ⟨_, _, _, e5, q5⟩ := g2
      cases e5
      exact q5 ι1 H1 σ1 Step.refl sr1 re1
    | cont =>
      obtain ⟨_, _, _, e5, q5⟩ := g2
      cases e5
      exact q5 ι1 H1 σ1 Step.refl sr1 re1
    | ret d =>
      obtain ⟨_, _, _, e5, q5⟩ := g2
      cases e5
      exact q5 ι1 H1 σ1 Step.refl sr1 re1
end
end
end SX
namespace SX
open PySem PySem.Spec PyProof.Rows L2

structure Def where
  name : Str
  qual : Str
  st : Stmt
  N : List Str
  ps : List Str
  fd : Fd
abbrev Kws := List (Nat × Nat × List Str × List Nat)
def cnOf (T : List Def) (bl : List Str) (kw : Kws) (d : Def) : Cn := ⟨d.N, defScope d.st, bl, T.length, fun f => (T[f]?.map (·.name)).getD "", kw⟩
def okDef (T : List Def) (bl : List Str) (kw : Kws) (d : Def) : Bool :=
  ckSs (cnOf T bl kw d) d.fd.body (defBody d.st) && decide (d.ps.length = d.fd.np) && decide (d.N.length = d.fd.ns) && decide (d.fd.np ≤ d.fd.ns)
structure DefS (T : List Def) (bl : List Str) (kw : Kws) (d : Def) : Prop where
  sc : FnScope d.N d.ps (defScope d.st)
  ok : okDef T bl kw d = true
structure DefK (K : PySem.W.Frag) (mg : Str → Option Value) (kw : Kws) (f : Nat) (d : Def) : Prop where
  ex : ∃ fa fdat, Fun K d.name d.qual d.st fa fdat ∧ mg d.name = some (.ref fa) ∧ L2.Binds K fdat d.ps [] ∧ ∀ q ∈ (kw.filter fun q => q.1 == f).map (·.2), KB fdat d.ps q.1 q.2.1 q.2.2
def prg (T : List Def) : Prg := fun f => T[f]?.map (·.fd)
noncomputable section
open Classical

theorem callN_len {T : List Def} {n f : Nat} {d : Def} {ds : List D} {S S' : Store} {r : D} (hf : T[f]? = some d) (h : callN (prg T) n f ds S = .ok r S') : ds.length = d.fd.np := by
  cases n with
  | zero => unfold callN at h; cases h
  | succ n =>
    unfold callN prg at h
    rw [hf] at h
    dsimp only [Option.map_some] at h
    split at h
    · rename_i c; exact c.1
    · cases h
theorem renv_start {K : PySem.W.Frag} {ι : List Addr} {H : Hp} {ds : List D} {vs : List V} {N : List Str} {np ns : Nat} (r : Reps K ι H ds vs) (h1 : ds.length = np) (h2 : np ≤ ns) (h3 : N.length = ns) :
    REnv K ι H (ds.map some ++ List.replicate (ns - np) none) (L2.start N vs) := by
  have hl := r.len
  refine ⟨?_, fun i d e => ?_⟩
  · unfold L2.start
    simp only [List.length_append, List.length_map, List.length_replicate]
    omega
  · have hi : i < ds.length := by
      by_cases hi : i < ds.length
      · exact hi
      · rw [List.getElem?_append_right (by simpa using hi)] at e
        rw [List.getElem?_replicate] at e
        split at e <;> cases e
    rw [List.getElem?_append_left (by simpa using hi), List.getElem?_map] at e
    cases e2 : ds[i]? with
    | none => rw [e2] at e; cases e
    | some x =>
      rw [e2] at e
      cases e
      obtain ⟨v, ev, rv⟩ := r.get e2
      refine ⟨v, ?_, rv⟩
      unfold L2.start
      rw [List.getElem?_append_left (by rw [List.length_map, ← hl]; exact hi), List.getElem?_map, ev]
      rfl
theorem callN_ok {P : Program} {w : World} {K : PySem.W.Frag} {mg : Str → Option Value} {base : Heap} {T : List Def} {bl : List Str} {kw : Kws}
    (hs : ∀ (f : Nat) (d : Def), T[f]? = some d → DefS T bl kw d) (hk : ∀ (f : Nat) (d : Def), T[f]? = some d → DefK K mg kw f d) (hb : ∀ x, bl.contains x = true → mg x = none) :
    ∀ (n f : Nat) (d : Def) (fa : Addr) (fdat : FuncData), T[f]? = some d → Fun K d.name d.qual d.st fa fdat → FnOk P w K mg base CX0 n fa fdat d.ps (GSp K d.ps.length (callN (prg T) n f))
  | 0, f, d, fa, fdat, hf, F => by
    have no : ∀ vs H Q E, GSp K d.ps.length (callN (prg T) 0 f) vs H Q E → False := fun vs H Q E h => by
      obtain ⟨_, ι, S, ds, _, _, g⟩ := h
      unfold callN at g
      exact got_bad g
    exact ⟨fun vs H Q E h => h.1, fun A outer s H args us vs Q E _ _ _ _ h => (no _ _ _ _ h).elim⟩
  | n + 1, f, d, fa, fdat, hf, F => by
    have S0 := hs f d hf
    have ok := S0.ok
    unfold okDef at ok
    simp only [Bool.and_eq_true, decide_eq_true_eq] at ok
    obtain ⟨⟨⟨ck, e1⟩, e2⟩, e3⟩ := ok
    refine F.ok S0.sc (fun vs H Q E h => h.1) (fun cdv A outer s H vs Q E hr h => ?_)
    have fits : FitsS (cnOf T bl kw d) (callN (prg T) n) (cxOf CX0 P w K mg base d.N d.qual (defScope d.st) fa cdv A outer s H E).nox := by
      refine ⟨⟨rfl, rfl, S0.sc.nd, rfl, hr.units, rfl, hb, fun g hg => ?_⟩, fun _ => rfl, S0.sc.kind⟩
      have hg' : T[g]? = some T[g] := List.getElem?_eq_getElem hg
      obtain ⟨ga, gd, G, gm, gb, gk⟩ := (hk g T[g] hg').ex
      have gok := callN_ok (P := P) (w := w) (base := base) hs hk hb n g T[g] ga gd hg' G
      have nm : (cnOf T bl kw d).fn g = T[g].name := by
        show ((T[g]?.map Def.name).getD ("" : Str)) = _
        rw [hg']
        rfl
      refine ⟨ga, gd, T[g].ps, n, ?_, G.kp, gok, hr, gb, gk, fun ds S r S' h => ?_⟩
      · rw [nm]; exact gm
      · have o2 := (hs g T[g] hg').ok
        unfold okDef at o2
        simp only [Bool.and_eq_true, decide_eq_true_eq] at o2
        rw [callN_len hg' h, ← o2.1.1.2]
    refine ⟨_, sn_Ss (callN (prg T) n) d.fd.body _ _ _ fits ck, ?_⟩
    obtain ⟨hl, ι, S, ds, sr, r, g⟩ := h
    have hds : ds.length = d.fd.np := by rw [r.len, hl, e1]
    have ec : callN (prg T) (n + 1) f ds S = endF d.fd S (exSs (callN (prg T) n) d.fd.body (ds.map some ++ List.replicate (d.fd.ns - d.fd.np) none) S) := by
      conv => lhs; unfold callN
      unfold prg
      rw [hf]
      dsimp only [Option.map_some]
      rw [if_pos ⟨hds, e3⟩]
    rw [ec] at g
    unfold endF at g
    obtain ⟨⟨fl, env1⟩, S1, ex, g1⟩ := got_bnd g
    refine ⟨ι, _, S, renv_start r hds e3 e2, sr, fl, env1, S1, ex, fun ι' H' σ' st sr1 re1 => ?_⟩
    cases fl with
    | next =>
      dsimp only at g1
      split at g1
      · rcases got_ite g1 with ⟨ht, g1⟩ | ⟨_, g1⟩
        · exact got_ok g1 ι H' .non st.back (sr.back sr1 st ht) to_non
        · exact (got_bad g1).elim
      · exact got_ok g1 ι' H' .non st sr1 to_non
    | ret x =>
      intro v rv
      dsimp only at g1
      split at g1
      · rcases got_ite g1 with ⟨⟨ht, hc⟩, g1⟩ | ⟨_, g1⟩
        · obtain ⟨t, et⟩ := st.pre
          subst et
          exact got_ok g1 ι H' v st.back (sr.back sr1 st ht) (Rep.cut x v (by rw [sr.len]; exact hc) rv)
        · exact (got_bad g1).elim
      · exact got_ok g1 ι' H' v st sr1 rv
    | brk => exact (got_bad g1).elim
    | cont => exact (got_bad g1).elim

/-! ### tables -/
theorem all_nil {T : List Def} {bl : List Str} {kw : Kws} : ∀ d ∈ ([] : List Def), DefS T bl kw d := fun _ h => by cases h
theorem all_cons {T : List Def} {bl : List Str} {kw : Kws} {d : Def} {ds : List Def} (h : DefS T bl kw d) (hs : ∀ d ∈ ds, DefS T bl kw d) : ∀ e ∈ d :: ds, DefS T bl kw e := fun e he => by
  rcases List.mem_cons.mp he with rfl | he
  · exact h
  · exact hs e he
theorem all_mem {T : List Def} {bl : List Str} {kw : Kws} {ds : List Def} (h : ∀ d ∈ ds, DefS T bl kw d) (d : Def) (hd : d ∈ ds) : DefS T bl kw d := h d hd
def KAll (K : PySem.W.Frag) (mg : Str → Option Value) (kw : Kws) : Nat → List Def → Prop
  | _, [] => True
  | i, d :: ds => DefK K mg kw i d ∧ KAll K mg kw (i + 1) ds
theorem kall_at {K : PySem.W.Frag} {mg : Str → Option Value} {kw : Kws} : ∀ {T : List Def} {i : Nat}, KAll K mg kw i T → ∀ (f : Nat) (d : Def), T[f]? = some d → DefK K mg kw (i + f) d
  | [], _, _, _, _, h => by simp at h
  | d :: ds, i, k, 0, e, h => by
    have h' : d = e := Option.some.inj h
    rw [← h']
    exact k.1
  | d :: ds, i, k, f + 1, e, h => by
    have := kall_at (T := ds) k.2 f e h
    rw [show i + (f + 1) = i + 1 + f by omega]
    exact this
theorem kall_get {K : PySem.W.Frag} {mg : Str → Option Value} {kw : Kws} {T : List Def} (h : KAll K mg kw 0 T) : ∀ (f : Nat) (d : Def), T[f]? = some d → DefK K mg kw f d := fun f d e => by
  have := kall_at h f d e
  rw [Nat.zero_add] at this
  exact this

/-! ### a law -/
theorem ints_reps {K : PySem.W.Frag} {ι : List Addr} {H : Hp} : ∀ ns : List Int, Reps K ι H (ns.map .int) (ns.map V.int)
  | [] => Reps.nil
  | n :: ns => .cons (to_int n) (ints_reps ns)
theorem law_sp {K : PySem.W.Frag} {H : Hp} {a : Addr} {ns : List Int} {φ : List D → Store → Res D} (hO : Only H) (hS : SqL K H a (ns.map V.int)) (h : ∃ S', φ [.rls (ns.map .int)] [] = .ok (.bl true) S') :
    GSp K 1 φ [.ref a] H (fun v _ => v = .bl true) fun _ _ _ => False := by
  obtain ⟨S', e⟩ := h
  have ro : RoL K H a (ns.map V.int) := by
    rcases hS with (h | h) | h
    · rcases hO a with z | ⟨o, xs, z⟩
      · rw [h] at z; cases z
      · rw [h] at z; cases z
    · exact .inl h
    · exact .inr h
  refine ⟨rfl, [], [], [.rls (ns.map .int)], ⟨List.nodup_nil, rfl, fun l o a e _ => by simp at e⟩, .cons ?_ .nil, .bl true, S', e, fun ι' H' b _ _ r => rep_bl r⟩
  unfold Rep
  exact ⟨a, _, rfl, ro, ints_reps ns⟩
theorem defK_mk {K : PySem.W.Frag} {h : Heap} {mg : Str → Option Value} {kw : Kws} {i : Nat} {d : Def} {f : Addr} {od an : Option Addr} {sl : Array (Option Value)} {oc kV dc pm cd ct : Value} (X : K.In h) (G : h.Ns mainGlobals mg)
    (a : PySem.W.nsIn K mainGlobals d.name = some (some (.ref f))) (l : K.lookup f = some ⟨oc, od, .func (PySem.W.fnOf d.name d.qual (defArgs d.st) (defBody d.st) (defScope d.st) .none kV dc pm an cd ct), sl⟩) (c : PySem.W.codeIn K cd d.qual = true) (k : PySem.W.keepIn K (.ref f) = true)
    (b : ∀ (kV doc pm : Value) (an : Option Addr) (cdv ct : Value) (us : List Value), us.length = d.ps.length → bindArgs (PySem.W.fnOf d.name d.qual (defArgs d.st) (defBody d.st) (defScope d.st) .none kV doc pm an cdv ct) ⟨us, []⟩ = pure (d.ps.zip us))
    (bk : ∀ (kV doc pm : Value) (an : Option Addr) (cdv ct : Value), ∀ q ∈ (kw.filter fun q => q.1 == i).map (·.2), KB (PySem.W.fnOf d.name d.qual (defArgs d.st) (defBody d.st) (defScope d.st) .none kV doc pm an cdv ct) d.ps q.1 q.2.1 q.2.2) : DefK K mg kw i d := by
  have F := fun_mk (st := d.st) l c k
  exact ⟨f, _, F, PySem.W.mg_of X G a, F.binds b, bk _ _ _ _ _ _⟩
end
end SX
namespace SX
open PySem PySem.Spec PyProof.Rows L2
noncomputable section
open Classical

/-! ### how a call is reckoned -/
theorem callN_eq {P : Prg} {f : Nat} {fd : Fd} (n : Nat) (ds : List D) (S : Store) (h : P f = some fd) (h1 : ds.length = fd.np) (h2 : fd.np ≤ fd.ns) :
    callN P (n + 1) f ds S = endF fd S (exSs (callN P n) fd.body (ds.map some ++ List.replicate (fd.ns - fd.np) none) S) := by
  conv => lhs; unfold callN
  rw [h]
  dsimp only
  rw [if_pos ⟨h1, h2⟩]
theorem cuts_app (S G : Store) : Cuts S (S ++ G) := ⟨by rw [List.length_append]; omega, fun j hj => .inl (List.getElem?_append_left hj)⟩
theorem cuts_self (S : Store) : Cuts S S := ⟨Nat.le_refl _, fun j hj => .inl rfl⟩
/-- the end of a def that forgets -/
theorem end_ret {fd : Fd} {S S1 : Store} {r : Res (Flow × Env)} {d : D} {env : Env} (e : r = .ok (.ret d, env) S1) (hp : fd.pure = true) (hc : Cuts S S1) (hd : clD S.length d = true) : endF fd S r = .ok d (S1.take S.length) := by
  rw [e]
  unfold endF
  rw [bnd_ok]
  dsimp only
  rw [if_pos hp, if_pos ⟨hc, hd⟩]
theorem end_app {fd : Fd} {S : Store} {r : Res (Flow × Env)} {d : D} {env : Env} (G : Store) (e : r = .ok (.ret d, env) (S ++ G)) (hp : fd.pure = true) (hd : clD S.length d = true) : endF fd S r = .ok d S := by
  rw [end_ret e hp (cuts_app S G) hd, List.take_left]
theorem end_pure {fd : Fd} {S : Store} {r : Res (Flow × Env)} {d : D} {env : Env} (e : r = .ok (.ret d, env) S) (hp : fd.pure = true) (hd : clD S.length d = true) : endF fd S r = .ok d S := by
  rw [end_ret e hp (cuts_self S) hd, List.take_length]
theorem end_any {fd : Fd} {S S1 : Store} {r : Res (Flow × Env)} {d : D} {env : Env} (e : r = .ok (.ret d, env) S1) (hp : fd.pure = false) : endF fd S r = .ok d S1 := by
  rw [e]
  unfold endF
  rw [bnd_ok]
  dsimp only
  rw [hp]
  rfl

/-! ### while -/
theorem whN_up {c : Env → Store → Res Bool} {b : Env → Store → Res (Flow × Env)} : ∀ {n : Nat} {env : Env} {S : Store}, whN c b n env S ≠ .bad → ∀ m, n ≤ m → whN c b m env S = whN c b n env S
  | 0, env, S, h, m, _ => absurd (by unfold whN; rfl) h
  | n + 1, env, S, h, 0, hm => by omega
  | n + 1, env, S, h, m + 1, hm => by
    unfold whN at h ⊢
    cases hc : c env S with
    | bad => rfl
    | ok k S1 =>
      rw [hc] at h
      simp only [bnd_ok] at h ⊢
      cases k with
      | false => rfl
      | true =>
        simp only [if_true] at h ⊢
        cases hb : b env S1 with
        | bad => rfl
        | ok r S2 =>
          rw [hb] at h
          simp only [bnd_ok] at h ⊢
          obtain ⟨fl, env2⟩ := r
          cases fl with
          | next => exact whN_up h m (by omega)
          | cont => exact whN_up h m (by omega)
          | brk => rfl
          | ret d => rfl
theorem whL_of {c : Env → Store → Res Bool} {b : Env → Store → Res (Flow × Env)} {n : Nat} {env : Env} {S : Store} (h : whN c b n env S ≠ .bad) : whL c b env S = whN c b n env S := by
  have hex : ∃ n, whN c b n env S ≠ .bad := ⟨n, h⟩
  unfold whL
  rw [dif_pos hex]
  have h2 := choose_spec hex
  rcases Nat.le_total n (choose hex) with hle | hle
  · exact whN_up h _ hle
  · exact (whN_up h2 _ hle).symm
theorem whL_no {c : Env → Store → Res Bool} {b : Env → Store → Res (Flow × Env)} {env : Env} {S : Store} (h : ∀ n, whN c b n env S = .bad) : whL c b env S = .bad := by
  unfold whL
  rw [dif_neg]
  rintro ⟨n, hn⟩
  exact hn (h n)
/-- one turn -/
theorem whL_eq (c : Env → Store → Res Bool) (b : Env → Store → Res (Flow × Env)) (env : Env) (S : Store) :
    whL c b env S = (c env S).bnd fun k S1 => if k = true then (b env S1).bnd fun r S2 => match r.1 with
        | .next => whL c b r.2 S2
        | .cont => whL c b r.2 S2
        | .brk => .ok (.next, r.2) S2
        | .ret d => .ok (.ret d, r.2) S2
      else .ok (.next, env) S1 := by
  have one : ∀ n, whN c b (n + 1) env S = (c env S).bnd fun k S1 => if k = true then (b env S1).bnd fun r S2 => match r.1 with
        | .next => whN c b n r.2 S2
        | .cont => whN c b n r.2 S2
        | .brk => .ok (.next, r.2) S2
        | .ret d => .ok (.ret d, r.2) S2
      else .ok (.next, env) S1 := fun n => by
    conv => lhs; unfold whN
    all_goals rfl
  cases hc : c env S with
  | bad =>
    refine whL_no fun n => ?_
    cases n with
    | zero => unfold whN; rfl
    | succ n => rw [one, hc]; rfl
  | ok k S1 =>
    simp only [bnd_ok]
    cases k with
    | false =>
      simp only [Bool.false_eq_true, if_false]
      rw [whL_of (n := 1)]
      · rw [one, hc]; rfl
      · rw [one, hc]; intro z; cases z
    | true =>
      simp only [if_true]
      cases hb : b env S1 with
      | bad =>
        simp only [bnd_bad]
        refine whL_no fun n => ?_
        cases n with
        | zero => unfold whN; rfl
        | succ n => rw [one, hc]; simp only [bnd_ok, if_true]; rw [hb]; rfl
      | ok r S2 =>
        simp only [bnd_ok]
        obtain ⟨fl, env2⟩ := r
        have go : ∀ n, whN c b (n + 1) env S = (match (generalizing := false) fl with
            | .next => whN c b n env2 S2
            | .cont => whN c b n env2 S2
            | .brk => .ok (.next, env2) S2
            | .ret d => .ok (.ret d, env2) S2) := fun n => by
          rw [one, hc]
          simp only [bnd_ok, if_true]
          refine (congrArg (fun z => Res.bnd z _) hb).trans ?_
          rfl
        have lp : (∀ n, whN c b (n + 1) env S = whN c b n env2 S2) → whL c b env S = whL c b env2 S2 := fun hh => by
          by_cases hex : ∃ n, whN c b n env2 S2 ≠ .bad
          · obtain ⟨n, hn⟩ := hex
            rw [whL_of hn, whL_of (n := n + 1) (by rw [hh]; exact hn), hh]
          · have hno : ∀ n, whN c b n env2 S2 = .bad := fun n => Classical.byContradiction fun z => hex ⟨n, z⟩
            rw [whL_no hno]
            refine whL_no fun n => ?_
            cases n with
            | zero => unfold whN; rfl
            | succ n => rw [hh, hno]
        cases fl with
        | next => exact lp go
        | cont => exact lp go
        | brk =>
          rw [whL_of (n := 1)]
          · exact go 0
          · rw [go 0]; intro z; cases z
        | ret d =>
          rw [whL_of (n := 1)]
          · exact go 0
          · rw [go 0]; intro z; cases z

/-! ### the store's places -/
@[simp] theorem st_get (S G : Store) (k : Nat) : (S ++ G)[S.length + k]? = G[k]? := by
  rw [List.getElem?_append_right (by omega)]
  congr 1
  omega
@[simp] theorem st_get0 (S G : Store) : (S ++ G)[S.length]? = G[0]? := by
  rw [List.getElem?_append_right (Nat.le_refl _), Nat.sub_self]
@[simp] theorem st_set (S G : Store) (k : Nat) (o : SO) : (S ++ G).set (S.length + k) o = S ++ G.set k o := by
  rw [List.set_append_right _ _ (by omega)]
  congr 2
  omega
@[simp] theorem st_set0 (S G : Store) (o : SO) : (S ++ G).set S.length o = S ++ G.set 0 o := by
  rw [List.set_append_right _ _ (Nat.le_refl _), Nat.sub_self]
@[simp] theorem at0 {α : Type} (x : α) (xs : List α) : atI (x :: xs) 0 = some x := by
  unfold atI ixN
  simp
@[simp] theorem at1 {α : Type} (x y : α) (xs : List α) : atI (x :: y :: xs) 1 = some y := by
  unfold atI ixN
  have : (1 : Int) < ((x :: y :: xs).length : Int) := by simp; omega
  simp only [List.length_cons] at this ⊢
  rw [if_pos (by decide), if_pos this]
  rfl
@[simp] theorem at2 {α : Type} (x y z : α) (xs : List α) : atI (x :: y :: z :: xs) 2 = some z := by
  unfold atI ixN
  have : (2 : Int) < ((x :: y :: z :: xs).length : Int) := by simp; omega
  simp only [List.length_cons] at this ⊢
  rw [if_pos (by decide), if_pos this]
  rfl
@[simp] theorem at3 {α : Type} (x y z w : α) (xs : List α) : atI (x :: y :: z :: w :: xs) 3 = some w := by
  unfold atI ixN
  have : (3 : Int) < ((x :: y :: z :: w :: xs).length : Int) := by simp; omega
  simp only [List.length_cons] at this ⊢
  rw [if_pos (by decide), if_pos this]
  rfl
@[simp] theorem at_m1 {α : Type} (xs : List α) (x : α) : atI (xs ++ [x]) (-1) = some x := atI_last xs x
theorem at_nat {α : Type} {xs : List α} {i : Int} (h0 : 0 ≤ i) (h1 : i.toNat < xs.length) : atI xs i = some xs[i.toNat] := by
  unfold atI ixN
  rw [if_pos h0, if_pos (by omega)]
  simp
theorem cmul_small {i j : Int} (h : -(2 ^ 64) < j ∧ j < 2 ^ 64) : CMulW i j ∨ CMul i j := .inr (.inr h)
theorem cmul_small' {i j : Int} (h : -(2 ^ 64) < i ∧ i < 2 ^ 64) : CMulW i j ∨ CMul i j := .inr (.inl h)
theorem cmul_wide {i j : Int} {a b : Nat} (ha : i.natAbs < 2 ^ a) (hb : j.natAbs < 2 ^ b) (h0 : 0 < a) (h1 : 0 < b) (h : a + b ≤ 1000000) : CMulW i j ∨ CMul i j := .inl (wide_mul ha hb h0 h1 h)
end
end SX
namespace SX
open PySem PySem.Spec PyProof.Rows L2
noncomputable section
open Classical

/-! ### one step at a time -/
theorem bnd_congr {α β : Type} {r r' : Res α} {k : α → Store → Res β} (h : r = r') : r.bnd k = r'.bnd k := by rw [h]
def ok1 {α β : Type} (a : α) (S : Store) (k : α → Store → Res β) : Res β := k a S
section
variable (F : Fns) (env : Env) (S : Store)
def varK (S : Store) : Option (Option D) → Res D
  | some (some d) => .ok d S
  | _ => .bad
theorem vE_var (i : Nat) : evE F (.var i) env S = varK S env[i]? := by rw [evE]; rfl
theorem varK_ok (d : D) : varK S (some (some d)) = .ok d S := rfl
theorem vE_int (i : Int) : evE F (.cint i) env S = .ok (.int i) S := by rw [evE]
theorem vE_bl (b : Bool) : evE F (.cbl b) env S = .ok (.bl b) S := by rw [evE]
theorem vE_non : evE F .cnon env S = .ok .non S := by rw [evE]
theorem vE_str (x : Str) : evE F (.cstr x) env S = .ok (.str x) S := by rw [evE]
def tupK (ds : List D) (S : Store) : Res D := if ds.length ≤ LINE then .ok (.tup ds) S else .bad
def lstK (ds : List D) (S : Store) : Res D := if ds.length ≤ LINE then new S (.lst ds) else .bad
theorem vE_tup (es : Es) : evE F (.tup es) env S = (evEs F es env S).bnd tupK := by rw [evE]; rfl
theorem vE_lst (es : Es) : evE F (.lst es) env S = (evEs F es env S).bnd lstK := by rw [evE]; rfl
def binJ (op : BO) (x y : D) (S2 : Store) : Res D := binD op x y S2
def binK (op : BO) (b : E) (x : D) (S1 : Store) : Res D := (evE F b env S1).bnd (binJ op x)
theorem binJ_eq (op : BO) (x y : D) : binJ op x y S = binD op x y S := rfl
theorem binK_eq (op : BO) (b : E) (x : D) : binK F env op b x S = (evE F b env S).bnd (binJ op x) := rfl
theorem vE_bin (op : BO) (a b : E) : evE F (.bin op a b) env S = (evE F a env S).bnd (binK F env op b) := by rw [evE]; rfl
def negK (x : D) (S1 : Store) : Res D := match x with
    | .int i => .ok (.int (-i)) S1
    | _ => .bad
theorem vE_neg (a : E) : evE F (.neg a) env S = (evE F a env S).bnd negK := by rw [evE]; rfl
def notK (b : Bool) (S1 : Store) : Res D := .ok (.bl (!b)) S1
theorem notK_eq (b : Bool) : notK b S = .ok (.bl (!b)) S := rfl
theorem vE_not (a : E) : evE F (.not a) env S = (truR (evE F a env S)).bnd notK := by rw [evE]; rfl
theorem vE_and (es : Es) : evE F (.and es) env S = evAnd F es env S := by rw [evE]
theorem vE_or (es : Es) : evE F (.or es) env S = evOr F es env S := by rw [evE]
def cmpJ (op : CO) (x y : D) (S2 : Store) : Res D := ofB (cmpD op x y S2) S2
def cmpK (op : CO) (b : E) (x : D) (S1 : Store) : Res D := (evE F b env S1).bnd (cmpJ op x)
theorem cmpJ_eq (op : CO) (x y : D) : cmpJ op x y S = ofB (cmpD op x y S) S := rfl
theorem cmpK_eq (op : CO) (b : E) (x : D) : cmpK F env op b x S = (evE F b env S).bnd (cmpJ op x) := rfl
theorem vE_cmp (op : CO) (a b : E) : evE F (.cmp op a b) env S = (evE F a env S).bnd (cmpK F env op b) := by rw [evE]; rfl
def brE (a b : E) (k : Bool) (S1 : Store) : Res D := if k = true then evE F a env S1 else evE F b env S1
theorem vE_ite (c a b : E) : evE F (.ite c a b) env S = (truR (evE F c env S)).bnd (brE F env a b) := by rw [evE]; rfl
theorem brE_t (a b : E) : brE F env a b true S = evE F a env S := rfl
theorem brE_f (a b : E) : brE F env a b false S = evE F b env S := rfl
def idxJ (x y : D) (S2 : Store) : Res D := idxD x y S2
def idxK (b : E) (x : D) (S1 : Store) : Res D := (evE F b env S1).bnd (idxJ x)
theorem idxJ_eq (x y : D) : idxJ x y S = idxD x y S := rfl
theorem idxK_eq (b : E) (x : D) : idxK F env b x S = (evE F b env S).bnd (idxJ x) := rfl
theorem vE_idx (a b : E) : evE F (.idx a b) env S = (evE F a env S).bnd (idxK F env b) := by rw [evE]; rfl
theorem vE_slc (a lo hi : E) : evE F (.slc a lo hi) env S = (evE F a env S).bnd fun x S1 =>
      (if isAbs lo = true then .ok none S1 else optI (evE F lo env S1)).bnd fun l S2 =>
      (if isAbs hi = true then .ok none S2 else optI (evE F hi env S2)).bnd fun h S3 => slcD x l h S3 := by rw [evE]
def calJ (f : Nat) (ds : List D) (S1 : Store) : Res D := F f ds S1
theorem calJ_eq (f : Nat) (ds : List D) : calJ F f ds S = F f ds S := rfl
theorem vE_call (f : Nat) (es : Es) : evE F (.call f es) env S = (evEs F es env S).bnd (calJ F f) := by rw [evE]; rfl
def clkJ (f : Nat) (perm : List Nat) (ds zs : List D) (S2 : Store) : Res D := F f (permD perm (ds ++ zs)) S2
def clkK (f : Nat) (ks : Es) (perm : List Nat) (ds : List D) (S1 : Store) : Res D := (evEs F ks env S1).bnd (clkJ F f perm ds)
theorem clkJ_eq (f : Nat) (perm : List Nat) (ds zs : List D) : clkJ F f perm ds zs S = F f (permD perm (ds ++ zs)) S := rfl
theorem clkK_eq (f : Nat) (ks : Es) (perm : List Nat) (ds : List D) : clkK F env f ks perm ds S = (evEs F ks env S).bnd (clkJ F f perm ds) := rfl
theorem vE_callk (f : Nat) (es ks : Es) (perm : List Nat) : evE F (.callk f es ks perm) env S = (evEs F es env S).bnd (clkK F env f ks perm) := by rw [evE]; rfl
def priJ (p : Pr) (ds : List D) (S1 : Store) : Res D := primD p ds S1
theorem priJ_eq (p : Pr) (ds : List D) : priJ p ds S = primD p ds S := rfl
theorem vE_prim (p : Pr) (es : Es) : evE F (.prim p es) env S = (evEs F es env S).bnd (priJ p) := by rw [evE]; rfl
def isiJ (t : Ty) (x : D) (S1 : Store) : Res D := ofB (isD t x) S1
theorem isiJ_eq (t : Ty) (x : D) : isiJ t x S = ofB (isD t x) S := rfl
theorem vE_isin (t : Ty) (a : E) : evE F (.isin t a) env S = (evE F a env S).bnd (isiJ t) := by rw [evE]; rfl
def metJ (m : Mt) (x : D) (ds : List D) (S2 : Store) : Res D := methD m x ds S2
def metI (m : Mt) (es : Es) (x : D) (S1 : Store) : Bool → Res D
  | true => (evEs F es env S1).bnd (metJ m x)
  | false => .bad
def metK (m : Mt) (es : Es) (x : D) (S1 : Store) : Res D := metI F env m es x S1 (recvOk m x S1)
theorem metJ_eq (m : Mt) (x : D) (ds : List D) : metJ m x ds S = methD m x ds S := rfl
theorem metI_t (m : Mt) (es : Es) (x : D) : metI F env m es x S true = (evEs F es env S).bnd (metJ m x) := rfl
theorem metK_eq (m : Mt) (es : Es) (x : D) : metK F env m es x S = metI F env m es x S (recvOk m x S) := rfl
theorem vE_meth (m : Mt) (o : E) (es : Es) : evE F (.meth m o es) env S = (evE F o env S).bnd (metK F env m es) := by
  rw [evE]
  congr 1
  funext x S1
  unfold metK
  cases recvOk m x S1 <;> rfl
def lcS (t : Tg) (own : List Nat) (cs : Es) (elt : E) (w : Walk) (items acc : List D) (S : Store) : Res (List D) := lcL w t env own (fun e s => evTs F cs e s) (fun e s => evE F elt e s) items acc S
def lcJ (ds : List D) (S2 : Store) : Res D := new S2 (.lst ds)
def lcK (elt : E) (t : Tg) (cs : Es) (own : List Nat) (w : Walk) (S1 : Store) : Res D := (lcS F env t own cs elt w w.items [] S1).bnd lcJ
theorem lcJ_eq (ds : List D) : lcJ ds S = new S (.lst ds) := rfl
theorem lcK_eq (elt : E) (t : Tg) (cs : Es) (own : List Nat) (w : Walk) : lcK F env elt t cs own w S = (lcS F env t own cs elt w w.items [] S).bnd lcJ := rfl
theorem vE_lc (elt : E) (t : Tg) (it : It) (cs : Es) (own : List Nat) : evE F (.lc elt t it cs own) env S = (evIt F it env S).bnd (lcK F env elt t cs own) := by rw [evE]; rfl
theorem vEs_nil : evEs F .nil env S = .ok [] S := by rw [evEs]
def conJ (d : D) (ds : List D) (S2 : Store) : Res (List D) := .ok (d :: ds) S2
def conK (es : Es) (d : D) (S1 : Store) : Res (List D) := (evEs F es env S1).bnd (conJ d)
theorem conJ_eq (d : D) (ds : List D) : conJ d ds S = .ok (d :: ds) S := rfl
theorem conK_eq (es : Es) (d : D) : conK F env es d S = (evEs F es env S).bnd (conJ d) := rfl
theorem vEs_cons (e : E) (es : Es) : evEs F (.cons e es) env S = (evE F e env S).bnd (conK F env es) := by rw [evEs]; rfl
def andK (es : Es) (d : D) (S1 : Store) : Option Bool → Res D
  | some true => evAnd F es env S1
  | some false => .ok d S1
  | none => .bad
def orK (es : Es) (d : D) (S1 : Store) : Option Bool → Res D
  | some false => evOr F es env S1
  | some true => .ok d S1
  | none => .bad
theorem vA_one (e : E) : evAnd F (.cons e .nil) env S = evE F e env S := ev_and1
def andJ (es : Es) (d : D) (S1 : Store) : Res D := andK F env es d S1 (truD d S1)
def orJ (es : Es) (d : D) (S1 : Store) : Res D := orK F env es d S1 (truD d S1)
theorem andJ_eq (es : Es) (d : D) : andJ F env es d S = andK F env es d S (truD d S) := rfl
theorem orJ_eq (es : Es) (d : D) : orJ F env es d S = orK F env es d S (truD d S) := rfl
theorem vA_cons (e e' : E) (es : Es) : evAnd F (.cons e (.cons e' es)) env S = (evE F e env S).bnd (andJ F env (.cons e' es)) := by
  rw [ev_and2]
  congr 1
theorem vO_one (e : E) : evOr F (.cons e .nil) env S = evE F e env S := ev_or1
theorem vO_cons (e e' : E) (es : Es) : evOr F (.cons e (.cons e' es)) env S = (evE F e env S).bnd (orJ F env (.cons e' es)) := by
  rw [ev_or2]
  congr 1
theorem andK_t (es : Es) (d : D) : andK F env es d S (some true) = evAnd F es env S := rfl
theorem andK_f (es : Es) (d : D) : andK F env es d S (some false) = .ok d S := rfl
theorem orK_t (es : Es) (d : D) : orK F env es d S (some true) = .ok d S := rfl
theorem orK_f (es : Es) (d : D) : orK F env es d S (some false) = evOr F es env S := rfl
theorem vT_nil : evTs F .nil env S = .ok true S := by rw [evTs]
theorem vT_cons (e : E) (es : Es) : evTs F (.cons e es) env S = truR (evE F e env S) := by rw [evTs]
def seqK (d : D) (S1 : Store) : Res Walk := match d with
    | .tup ds => .ok ⟨ds, none⟩ S1
    | .rls ds => .ok ⟨ds, none⟩ S1
    | .loc l => match S1[l]? with
      | some (.lst ds) => .ok ⟨ds, some l⟩ S1
      | none => .bad
    | _ => .bad
theorem vI_seq (e : E) : evIt F (.seq e) env S = (evE F e env S).bnd seqK := by rw [evIt]; rfl
theorem seqK_tup (ds : List D) : seqK (.tup ds) S = .ok ⟨ds, none⟩ S := rfl
theorem seqK_rls (ds : List D) : seqK (.rls ds) S = .ok ⟨ds, none⟩ S := rfl
def seqL (S : Store) (l : Nat) : Option SO → Res Walk
  | some (.lst ds) => .ok ⟨ds, some l⟩ S
  | none => .bad
theorem seqK_loc (l : Nat) : seqK (.loc l) S = seqL S l S[l]? := by
  unfold seqK seqL
  cases h : S[l]? with
  | none => simp only [h]
  | some o => cases o; simp only [h]
theorem seqL_ok (l : Nat) (ds : List D) : seqL S l (some (.lst ds)) = .ok ⟨ds, some l⟩ S := rfl
def rngK (lo hi : Int) : List D := (List.range (hi - lo).toNat).map fun (k : Nat) => .int (lo + (k : Int))
def rg1K (d : D) (S1 : Store) : Res Walk := match d with
    | .int n => if R62 n then .ok ⟨(List.range n.toNat).map fun (k : Nat) => .int (0 + (k : Int)), none⟩ S1 else .bad
    | _ => .bad
theorem vI_range1 (e : E) : evIt F (.range1 e) env S = (evE F e env S).bnd rg1K := by rw [evIt]; rfl
theorem rg1_int {n : Int} (h : R62 n) : rg1K (.int n) S = .ok ⟨rngK 0 n, none⟩ S := by
  unfold rg1K rngK
  simp only [if_pos h, Int.sub_zero]
def rg2K (x y : D) (S2 : Store) : Res Walk := match x, y with
    | .int i, .int j => if R62 i ∧ R62 j then .ok ⟨rngK i j, none⟩ S2 else .bad
    | _, _ => .bad
def rg2J (b : E) (x : D) (S1 : Store) : Res Walk := (evE F b env S1).bnd (rg2K x)
theorem rg2J_eq (b : E) (x : D) : rg2J F env b x S = (evE F b env S).bnd (rg2K x) := rfl
theorem vI_range2 (a b : E) : evIt F (.range2 a b) env S = (evE F a env S).bnd (rg2J F env b) := by rw [evIt]; rfl
theorem rg2_int {i j : Int} (h : R62 i ∧ R62 j) : rg2K (.int i) (.int j) S = .ok ⟨rngK i j, none⟩ S := by
  unfold rg2K
  simp only [if_pos h]

/-! ### statements -/
def asgK (t : Tg) (d : D) (S1 : Store) : Res (Flow × Env) := match asgT t d S1 env with
    | some env1 => .ok (.next, env1) S1
    | none => .bad
theorem xS_asg (t : Tg) (e : E) : exS F (.asg t e) env S = (evE F e env S).bnd (asgK env t) := by rw [exS]; rfl
theorem asgK_nm (i : Nat) (d : D) : asgK env (.nm i) d S = .ok (.next, env.set i (some d)) S := by unfold asgK; simp only [asgT]
theorem asgT_nm (i : Nat) (d : D) : asgT (.nm i) d S env = some (env.set i (some d)) := by rw [asgT]
theorem asgT_tp2 (i j : Nat) (x y : D) : asgT (.tp (.cons (.nm i) (.cons (.nm j) .nil))) (.tup [x, y]) S env = some ((env.set i (some x)).set j (some y)) := rfl
theorem asgT_tp3 (i j k : Nat) (x y z : D) : asgT (.tp (.cons (.nm i) (.cons (.nm j) (.cons (.nm k) .nil)))) (.tup [x, y, z]) S env = some (((env.set i (some x)).set j (some y)).set k (some z)) := rfl
theorem asgK_tp2 (i j : Nat) (x y : D) : asgK env (.tp (.cons (.nm i) (.cons (.nm j) .nil))) (.tup [x, y]) S = .ok (.next, (env.set i (some x)).set j (some y)) S := rfl
theorem asgK_tp3 (i j k : Nat) (x y z : D) : asgK env (.tp (.cons (.nm i) (.cons (.nm j) (.cons (.nm k) .nil)))) (.tup [x, y, z]) S = .ok (.next, ((env.set i (some x)).set j (some y)).set k (some z)) S := rfl
def parK (is : List Nat) (ds : List D) (S1 : Store) : Res (Flow × Env) := match setAll env is ds with
    | some env1 => .ok (.next, env1) S1
    | none => .bad
theorem xS_par (is : List Nat) (es : Es) : exS F (.par is es) env S = (evEs F es env S).bnd (parK env is) := by rw [exS]; rfl
theorem parK_2 (i j : Nat) (x y : D) : parK env [i, j] [x, y] S = .ok (.next, (env.set i (some x)).set j (some y)) S := rfl
theorem parK_3 (i j k : Nat) (x y z : D) : parK env [i, j, k] [x, y, z] S = .ok (.next, ((env.set i (some x)).set j (some y)).set k (some z)) S := rfl
def nxtK {α : Type} (_ : α) (S4 : Store) : Res (Flow × Env) := .ok (.next, env) S4
def setI3 (x y z : D) (S3 : Store) : Res (Flow × Env) := (setD y z x S3).bnd (nxtK env)
def setI2 (i : E) (x y : D) (S2 : Store) : Res (Flow × Env) := (evE F i env S2).bnd (setI3 env x y)
def setI1 (o i : E) (x : D) (S1 : Store) : Res (Flow × Env) := (evE F o env S1).bnd (setI2 F env i x)
theorem nxtK_eq {α : Type} (a : α) : nxtK env a S = .ok (.next, env) S := rfl
theorem setI3_eq (x y z : D) : setI3 env x y z S = (setD y z x S).bnd (nxtK env) := rfl
theorem setI2_eq (i : E) (x y : D) : setI2 F env i x y S = (evE F i env S).bnd (setI3 env x y) := rfl
theorem setI1_eq (o i : E) (x : D) : setI1 F env o i x S = (evE F o env S).bnd (setI2 F env i x) := rfl
theorem xS_setS (o i v : E) : exS F (.setS o i v) env S = (evE F v env S).bnd (setI1 F env o i) := by rw [exS]; rfl
def augK (i : Nat) (op : BO) (x y : D) (S1 : Store) : Res (Flow × Env) := match augD op x y with
      | some z => .ok (.next, env.set i (some z)) S1
      | none => .bad
def augV (i : Nat) (op : BO) (e : E) : Option (Option D) → Res (Flow × Env)
  | some (some x) => (evE F e env S).bnd (augK env i op x)
  | _ => .bad
theorem xS_aug (i : Nat) (op : BO) (e : E) : exS F (.aug i op e) env S = augV F env S i op e env[i]? := by rw [exS]; rfl
theorem augV_ok (i : Nat) (op : BO) (e : E) (x : D) : augV F env S i op e (some (some x)) = (evE F e env S).bnd (augK env i op x) := rfl
theorem augK_add (i : Nat) (a b : Int) : augK env i .add (.int a) (.int b) S = .ok (.next, env.set i (some (.int (a + b)))) S := rfl
theorem augK_sub (i : Nat) (a b : Int) : augK env i .sub (.int a) (.int b) S = .ok (.next, env.set i (some (.int (a - b)))) S := rfl
theorem xS_expr (e : E) : exS F (.expr e) env S = (evE F e env S).bnd (nxtK env) := by rw [exS]; rfl
def retK (d : D) (S1 : Store) : Res (Flow × Env) := .ok (.ret d, env) S1
theorem retK_eq (d : D) : retK env d S = .ok (.ret d, env) S := rfl
theorem xS_ret (e : E) : exS F (.ret e) env S = (evE F e env S).bnd (retK env) := by rw [exS]; rfl
theorem xS_retN : exS F .retN env S = .ok (.ret .non, env) S := by rw [exS]
def brS (a b : Ss) (k : Bool) (S1 : Store) : Res (Flow × Env) := if k = true then exSs F a env S1 else exSs F b env S1
theorem xS_ite (c : E) (a b : Ss) : exS F (.ite c a b) env S = (truR (evE F c env S)).bnd (brS F env a b) := by rw [exS]; rfl
theorem brS_t (a b : Ss) : brS F env a b true S = exSs F a env S := rfl
theorem brS_f (a b : Ss) : brS F env a b false S = exSs F b env S := rfl
def whS (c : E) (b : Ss) (env : Env) (S : Store) : Res (Flow × Env) := whL (fun e s => truR (evE F c e s)) (fun e s => exSs F b e s) env S
theorem xS_wh (c : E) (b : Ss) : exS F (.wh c b) env S = whS F c b env S := by rw [exS]; rfl
def whK (c : E) (b : Ss) (r : Flow × Env) (S2 : Store) : Res (Flow × Env) := match r.1 with
        | .next => whS F c b r.2 S2
        | .cont => whS F c b r.2 S2
        | .brk => .ok (.next, r.2) S2
        | .ret d => .ok (.ret d, r.2) S2
def whB (c : E) (b : Ss) (k : Bool) (S1 : Store) : Res (Flow × Env) := if k = true then (exSs F b env S1).bnd (whK F c b) else .ok (.next, env) S1
theorem whS_eq (c : E) (b : Ss) : whS F c b env S = (truR (evE F c env S)).bnd (whB F env c b) := by
  unfold whS
  rw [whL_eq]
  rfl
theorem whB_t (c : E) (b : Ss) : whB F env c b true S = (exSs F b env S).bnd (whK F c b) := rfl
theorem whB_f (c : E) (b : Ss) : whB F env c b false S = .ok (.next, env) S := rfl
theorem whK_n (c : E) (b : Ss) : whK F c b (.next, env) S = whS F c b env S := rfl
theorem whK_c (c : E) (b : Ss) : whK F c b (.cont, env) S = whS F c b env S := rfl
theorem whK_b (c : E) (b : Ss) : whK F c b (.brk, env) S = .ok (.next, env) S := rfl
theorem whK_r (c : E) (b : Ss) (d : D) : whK F c b (.ret d, env) S = .ok (.ret d, env) S := rfl
def foS (t : Tg) (b : Ss) (w : Walk) (items : List D) (env : Env) (S : Store) : Res (Flow × Env) := forL w t (fun e s => exSs F b e s) items env S
theorem xS_fo (t : Tg) (it : It) (b : Ss) : exS F (.fo t it b) env S = (evIt F it env S).bnd fun w S1 => foS F t b w w.items env S1 := by rw [exS]; rfl
def foK (t : Tg) (b : Ss) (w : Walk) (items : List D) (r : Flow × Env) (S2 : Store) : Res (Flow × Env) := match r.1 with
        | .next => foS F t b w items r.2 S2
        | .cont => foS F t b w items r.2 S2
        | .brk => .ok (.next, r.2) S2
        | .ret d => .ok (.ret d, r.2) S2
def foT (t : Tg) (b : Ss) (w : Walk) (items : List D) (S : Store) : Option Env → Res (Flow × Env)
  | some env1 => (exSs F b env1 S).bnd (foK F t b w items)
  | none => .bad
theorem fo_nil (t : Tg) (b : Ss) (w : Walk) (h : w.here S) : foS F t b w [] env S = .ok (.next, env) S := by unfold foS forL; rw [if_pos h]
theorem fo_cons (t : Tg) (b : Ss) (w : Walk) (d : D) (ds : List D) (h : w.here S) : foS F t b w (d :: ds) env S = foT F t b w ds S (asgT t d S env) := by
  unfold foS forL
  rw [if_pos h]
  cases asgT t d S env <;> rfl
theorem foT_some (t : Tg) (b : Ss) (w : Walk) (ds : List D) : foT F t b w ds S (some env) = (exSs F b env S).bnd (foK F t b w ds) := rfl
theorem foK_n (t : Tg) (b : Ss) (w : Walk) (ds : List D) : foK F t b w ds (.next, env) S = foS F t b w ds env S := rfl
theorem foK_c (t : Tg) (b : Ss) (w : Walk) (ds : List D) : foK F t b w ds (.cont, env) S = foS F t b w ds env S := rfl
theorem foK_b (t : Tg) (b : Ss) (w : Walk) (ds : List D) : foK F t b w ds (.brk, env) S = .ok (.next, env) S := rfl
theorem foK_r (t : Tg) (b : Ss) (w : Walk) (ds : List D) (d : D) : foK F t b w ds (.ret d, env) S = .ok (.ret d, env) S := rfl
theorem here_none (ds : List D) : (⟨ds, none⟩ : Walk).here S := True.intro
theorem here_some {ds : List D} {l : Nat} (h : S[l]? = some (.lst ds)) : (⟨ds, some l⟩ : Walk).here S := h
theorem xS_brk : exS F .brk env S = .ok (.brk, env) S := by rw [exS]
theorem xS_cont : exS F .cont env S = .ok (.cont, env) S := by rw [exS]
theorem xS_pass : exS F .pass env S = .ok (.next, env) S := by rw [exS]
def sqK (ss : Ss) (r : Flow × Env) (S1 : Store) : Res (Flow × Env) := match r.1 with
    | .next => exSs F ss r.2 S1
    | f => .ok (f, r.2) S1
theorem xSs_nil : exSs F .nil env S = .ok (.next, env) S := by rw [exSs]
theorem xSs_cons (s : St) (ss : Ss) : exSs F (.cons s ss) env S = (exS F s env S).bnd (sqK F ss) := by rw [exSs]; rfl
theorem sqK_n (ss : Ss) : sqK F ss (.next, env) S = exSs F ss env S := rfl
theorem sqK_r (ss : Ss) (d : D) : sqK F ss (.ret d, env) S = .ok (.ret d, env) S := rfl
theorem sqK_b (ss : Ss) : sqK F ss (.brk, env) S = .ok (.brk, env) S := rfl
theorem sqK_c (ss : Ss) : sqK F ss (.cont, env) S = .ok (.cont, env) S := rfl

/-! ### list comprehensions -/
def lcB (t : Tg) (own : List Nat) (cs : Es) (elt : E) (w : Walk) (items acc : List D) (env1 : Env) (b : Bool) (S1 : Store) : Res (List D) :=
  if b = true then (evE F elt env1 S1).bnd fun x S2 => if acc.length < LINE then lcS F env t own cs elt w items (acc ++ [x]) S2 else .bad
  else lcS F env t own cs elt w items acc S1
def lcT (t : Tg) (own : List Nat) (cs : Es) (elt : E) (w : Walk) (items acc : List D) (S : Store) : Option Env → Res (List D)
  | some env1 => (evTs F cs env1 S).bnd (lcB F env t own cs elt w items acc env1)
  | none => .bad
theorem lc_nil (t : Tg) (own : List Nat) (cs : Es) (elt : E) (w : Walk) (acc : List D) (h : w.here S) : lcS F env t own cs elt w [] acc S = .ok acc S := by unfold lcS lcL; rw [if_pos h]
theorem lc_cons (t : Tg) (own : List Nat) (cs : Es) (elt : E) (w : Walk) (d : D) (ds acc : List D) (h : w.here S) : lcS F env t own cs elt w (d :: ds) acc S = lcT F env t own cs elt w ds acc S (asgT t d S (wipeE env own)) := by
  unfold lcS lcL
  rw [if_pos h]
  cases asgT t d S (wipeE env own) <;> rfl

/-! ### values -/
theorem new_eq (o : SO) : new S o = .ok (.loc S.length) (S ++ [o]) := rfl
theorem b_add (i j : Int) : binD .add (.int i) (.int j) S = .ok (.int (i + j)) S := rfl
theorem b_sub (i j : Int) : binD .sub (.int i) (.int j) S = .ok (.int (i - j)) S := rfl
theorem b_mul {i j : Int} (h : CMulW i j ∨ CMul i j) : binD .mul (.int i) (.int j) S = .ok (.int (i * j)) S := by
  show (if CMulW i j ∨ CMul i j then _ else _) = _
  rw [if_pos h]
theorem b_mulL {i j : Int} (h : -(2 ^ 64) < i ∧ i < 2 ^ 64) : binD .mul (.int i) (.int j) S = .ok (.int (i * j)) S := b_mul S (.inr (.inl h))
theorem b_mulR {i j : Int} (h : -(2 ^ 64) < j ∧ j < 2 ^ 64) : binD .mul (.int i) (.int j) S = .ok (.int (i * j)) S := b_mul S (.inr (.inr h))
theorem b_fdiv {i j : Int} (h : CDivW i j) : binD .fdiv (.int i) (.int j) S = .ok (.int (i / j)) S := by
  show (if CDivW i j then _ else _) = _
  rw [if_pos h]
theorem b_mod {i j : Int} (h : 0 < j) : binD .mod (.int i) (.int j) S = .ok (.int (i % j)) S := by
  show (if 0 < j then _ else _) = _
  rw [if_pos h]
theorem b_pow {i j : Int} (h : CPow i j) : binD .pow (.int i) (.int j) S = .ok (.int (i ^ j.toNat)) S := by
  show (if CPow i j then _ else _) = _
  rw [if_pos h]
theorem b_addT {xs ys : List D} (h : xs.length + ys.length ≤ LINE) : binD .add (.tup xs) (.tup ys) S = .ok (.tup (xs ++ ys)) S := by
  show (if xs.length + ys.length ≤ LINE then _ else _) = _
  rw [if_pos h]
def addL (S : Store) : Option SO → Option SO → Res D
  | some (.lst xs), some (.lst ys) => if xs.length + ys.length ≤ LINE then new S (.lst (xs ++ ys)) else .bad
  | _, _ => .bad
theorem b_addL (l m : Nat) : binD .add (.loc l) (.loc m) S = addL S S[l]? S[m]? := by
  unfold binD addL
  cases h : S[l]? with
  | none => simp only [h]
  | some o => cases o; cases h2 : S[m]? with
    | none => simp only [h, h2]
    | some o => cases o; simp only [h, h2]
theorem addL_ok {xs ys : List D} (h : xs.length + ys.length ≤ LINE) : addL S (some (.lst xs)) (some (.lst ys)) = .ok (.loc S.length) (S ++ [.lst (xs ++ ys)]) := by
  show (if xs.length + ys.length ≤ LINE then _ else _) = _
  rw [if_pos h]
  rfl
theorem b_repT {xs : List D} {k : Int} (h : xs ≠ [] ∧ 1 ≤ k ∧ k ≤ 1000 ∧ xs.length ≤ 1000) : binD .mul (.tup xs) (.int k) S = .ok (.tup (List.replicate k.toNat xs).flatten) S := by
  show (if xs ≠ [] ∧ 1 ≤ k ∧ k ≤ 1000 ∧ xs.length ≤ 1000 then _ else _) = _
  rw [if_pos h]
theorem k_lt (i j : Int) : cmpD .lt (.int i) (.int j) S = some (decide (i < j)) := rfl
theorem k_le (i j : Int) : cmpD .le (.int i) (.int j) S = some (decide (i ≤ j)) := rfl
theorem k_gt (i j : Int) : cmpD .gt (.int i) (.int j) S = some (decide (j < i)) := rfl
theorem k_ge (i j : Int) : cmpD .ge (.int i) (.int j) S = some (decide (j ≤ i)) := rfl
theorem k_eq (a b : D) : cmpD .eq a b S = eqD a b S := by cases a <;> cases b <;> rfl
theorem k_ne (a b : D) : cmpD .ne a b S = (eqD a b S).map (!·) := by cases a <;> cases b <;> rfl
theorem k_isN (a : D) : cmpD .isN a .non S = some (isNonD a) := by cases a <;> rfl
theorem k_notN (a : D) : cmpD .notN a .non S = some (!isNonD a) := by cases a <;> rfl
theorem q_int (i j : Int) : eqD (.int i) (.int j) S = some (decide (i = j)) := rfl
theorem q_bl (i j : Bool) : eqD (.bl i) (.bl j) S = some (decide (i = j)) := rfl
theorem q_str (i j : Str) : eqD (.str i) (.str j) S = some (decide (i = j)) := rfl
theorem ofB_some (b : Bool) : ofB (some b) S = .ok (.bl b) S := rfl
theorem tr_bl (b : Bool) : truR (.ok (.bl b) S) = .ok b S := rfl
theorem tr_int (i : Int) : truR (.ok (.int i) S) = .ok (i != 0) S := rfl
theorem tr_non : truR (.ok .non S) = .ok false S := rfl
theorem tr_tup (ds : List D) : truR (.ok (.tup ds) S) = .ok (!ds.isEmpty) S := rfl
def trK (S : Store) : Option SO → Res Bool
  | some (.lst ds) => .ok (!ds.isEmpty) S
  | none => .bad
theorem tr_loc (l : Nat) : truR (.ok (.loc l) S) = trK S S[l]? := by
  unfold truR truD trK
  rw [bnd_ok]
  cases h : S[l]? with
  | none => simp only [h]
  | some o => cases o; simp only [h]
theorem trK_ok (ds : List D) : trK S (some (.lst ds)) = .ok (!ds.isEmpty) S := rfl
theorem td_bl (b : Bool) : truD (.bl b) S = some b := rfl
theorem td_int (i : Int) : truD (.int i) S = some (i != 0) := rfl
theorem td_tup (ds : List D) : truD (.tup ds) S = some (!ds.isEmpty) := rfl
theorem okV_some (d : D) : okV (some d) S = .ok d S := rfl
theorem i_tup (ds : List D) (i : Int) : idxD (.tup ds) (.int i) S = okV (atI ds i) S := rfl
theorem i_rls (ds : List D) (i : Int) : idxD (.rls ds) (.int i) S = okV (atI ds i) S := rfl
def idxL (S : Store) (i : Int) : Option SO → Res D
  | some (.lst ds) => okV (atI ds i) S
  | none => .bad
theorem i_loc (l : Nat) (i : Int) : idxD (.loc l) (.int i) S = idxL S i S[l]? := by
  unfold idxD seqD idxL
  cases h : S[l]? with
  | none => simp only [h]
  | some o => cases o; simp only [h]
theorem idxL_ok (i : Int) (ds : List D) : idxL S i (some (.lst ds)) = okV (atI ds i) S := rfl
theorem tupK_ok {ds : List D} (h : ds.length ≤ LINE) : tupK ds S = .ok (.tup ds) S := by unfold tupK; rw [if_pos h]
theorem lstK_ok {ds : List D} (h : ds.length ≤ LINE) : lstK ds S = .ok (.loc S.length) (S ++ [.lst ds]) := by unfold lstK; rw [if_pos h]; rfl
theorem negK_int (i : Int) : negK (.int i) S = .ok (.int (-i)) S := rfl
theorem p_abs (i : Int) : primD .abs [.int i] S = .ok (.int i.natAbs) S := by
  show Res.ok (D.int (if i < 0 then -i else i)) S = _
  congr 2
  omega
theorem p_int (i : Int) : primD .int [.int i] S = .ok (.int i) S := rfl
theorem p_intB (b : Bool) : primD .int [.bl b] S = .ok (.int (if b then 1 else 0)) S := rfl
theorem p_lenT (ds : List D) : primD .len [.tup ds] S = .ok (.int ds.length) S := rfl
theorem p_lenR (ds : List D) : primD .len [.rls ds] S = .ok (.int ds.length) S := rfl
def lenL (S : Store) : Option SO → Res D
  | some (.lst ds) => .ok (.int ds.length) S
  | none => .bad
theorem p_lenL (l : Nat) : primD .len [.loc l] S = lenL S S[l]? := by
  show pLen [.loc l] S = _
  unfold pLen seqD lenL
  cases h : S[l]? with
  | none => simp only [h]
  | some o => cases o; simp only [h]
theorem lenL_ok (ds : List D) : lenL S (some (.lst ds)) = .ok (.int ds.length) S := rfl
theorem p_max (i j : Int) : primD .max [.int i, .int j] S = .ok (.int (max i j)) S := by
  show Res.ok (D.int (if j > i then j else i)) S = _
  congr 2
  omega
theorem p_min (i j : Int) : primD .min [.int i, .int j] S = .ok (.int (min i j)) S := by
  show Res.ok (D.int (if j < i then j else i)) S = _
  congr 2
  omega
theorem p_tupT (ds : List D) : primD .tuple [.tup ds] S = .ok (.tup ds) S := rfl
def tupL (S : Store) : Option SO → Res D
  | some (.lst ds) => .ok (.tup ds) S
  | none => .bad
theorem p_tupL (l : Nat) : primD .tuple [.loc l] S = tupL S S[l]? := by
  show pTuple [.loc l] S = _
  unfold pTuple seqD tupL
  cases h : S[l]? with
  | none => simp only [h]
  | some o => cases o; simp only [h]
theorem tupL_ok (ds : List D) : tupL S (some (.lst ds)) = .ok (.tup ds) S := rfl
theorem p_lstT (ds : List D) : primD .list [.tup ds] S = .ok (.loc S.length) (S ++ [.lst ds]) := rfl
def lstL (S : Store) : Option SO → Res D
  | some (.lst ds) => .ok (.loc S.length) (S ++ [.lst ds])
  | none => .bad
theorem p_lstL (l : Nat) : primD .list [.loc l] S = lstL S S[l]? := by
  show pList [.loc l] S = _
  unfold pList seqD lstL
  cases h : S[l]? with
  | none => simp only [h]
  | some o => cases o; simp only [h]; rfl
theorem lstL_ok (ds : List D) : lstL S (some (.lst ds)) = .ok (.loc S.length) (S ++ [.lst ds]) := rfl
theorem isD_ok (t : Ty) (d : D) : ofB (isD t d) S = .ok (.bl (isK t (kdD d))) S := rfl
def appL (S : Store) (l : Nat) (d : D) : Option SO → Res D
  | some (.lst xs) => if xs.length < LINE then .ok .non (S.set l (.lst (xs ++ [d]))) else .bad
  | none => .bad
theorem m_app (l : Nat) (d : D) : methD .append (.loc l) [d] S = appL S l d S[l]? := by
  show mApp (.loc l) [d] S = _
  unfold mApp appL
  cases h : S[l]? with
  | none => simp only [h]
  | some o => cases o; simp only [h]
theorem appL_ok {xs : List D} (l : Nat) (d : D) (hl : xs.length < LINE) : appL S l d (some (.lst xs)) = .ok .non (S.set l (.lst (xs ++ [d]))) := by
  show (if xs.length < LINE then _ else _) = _
  rw [if_pos hl]
def popL (S : Store) (l : Nat) : Option SO → Res D
  | some (.lst xs) => popK xs[xs.length - 1]? (S.set l (.lst xs.dropLast))
  | none => .bad
where popK : Option D → Store → Res D
  | some d, S => .ok d S
  | none, _ => .bad
theorem m_pop (l : Nat) : methD .pop (.loc l) [] S = popL S l S[l]? := by
  show mPop (.loc l) [] S = _
  unfold mPop popL
  cases h : S[l]? with
  | none => simp only [h]
  | some o =>
    cases o with
    | lst xs =>
      simp only [h]
      cases h2 : xs[xs.length - 1]? <;> simp only [popL.popK]
theorem popL_ok (l : Nat) (xs : List D) (d : D) : popL S l (some (.lst (xs ++ [d]))) = .ok d (S.set l (.lst xs)) := by
  unfold popL
  simp [popL.popK]
def revL (S : Store) (l : Nat) : Option SO → Res D
  | some (.lst xs) => .ok .non (S.set l (.lst xs.reverse))
  | none => .bad
theorem m_rev (l : Nat) : methD .reverse (.loc l) [] S = revL S l S[l]? := by
  show mRev (.loc l) [] S = _
  unfold mRev revL
  cases h : S[l]? with
  | none => simp only [h]
  | some o => cases o; simp only [h]
theorem revL_ok (l : Nat) (xs : List D) : revL S l (some (.lst xs)) = .ok .non (S.set l (.lst xs.reverse)) := rfl
def recvL : Option SO → Bool
  | some (.lst _) => true
  | none => false
theorem recv_ok (m : Mt) (l : Nat) : recvOk m (.loc l) S = recvL S[l]? := by
  unfold recvOk recvL
  cases h : S[l]? with
  | none => simp only [h]
  | some o => cases o; simp only [h]
theorem recvL_ok (xs : List D) : recvL (some (.lst xs)) = true := rfl
def setL (S : Store) (l : Nat) (k : Int) (v : D) : Option SO → Res Unit
  | some (.lst xs) => setI xs (ixN xs.length k)
  | none => .bad
where setI (xs : List D) : Option Nat → Res Unit
  | some j => .ok () (S.set l (.lst (xs.set j v)))
  | none => .bad
theorem set_loc (l : Nat) (k : Int) (v : D) : setD (.loc l) (.int k) v S = setL S l k v S[l]? := by
  unfold setD setL
  cases h : S[l]? with
  | none => simp only [h]
  | some o =>
    cases o with
    | lst xs =>
      simp only [h]
      cases h2 : ixN xs.length k <;> simp only [setL.setI]
theorem setL_ok {l : Nat} {k : Int} {v : D} {xs : List D} : setL S l k v (some (.lst xs)) = setL.setI S l v xs (ixN xs.length k) := rfl
theorem setI_ok (l : Nat) (v : D) (xs : List D) (j : Nat) : setL.setI S l v xs (some j) = .ok () (S.set l (.lst (xs.set j v))) := rfl
end
end
end SX
namespace SX
open PySem PySem.Spec PyProof.Rows L2
noncomputable section
open Classical
local macro_rules | `(tactic| walk_at "ev") => `(tactic| simp (config := { maxSteps := 3000000 }) (disch := first | assumption | omega | exact ⟨by omega, by omega⟩ | exact ⟨⟨by omega, by omega⟩, ⟨by omega, by omega⟩⟩ | exact Nat.le_of_ble_eq_true rfl | decide) only [bnd_ok, bnd_bad, binJ_eq, binK_eq, notK_eq, cmpJ_eq, cmpK_eq, idxJ_eq, idxK_eq, calJ_eq, clkJ_eq, clkK_eq, priJ_eq, isiJ_eq, metJ_eq, metI_t, metK_eq, lcJ_eq, lcK_eq, conJ_eq, conK_eq, andJ_eq, orJ_eq, rg2J_eq, nxtK_eq, setI1_eq, setI2_eq, setI3_eq, retK_eq,  vE_var, varK_ok, vE_int, vE_bl, vE_non, vE_str, vE_tup, vE_lst, vE_bin, vE_neg, vE_not, vE_and, vE_or, vE_cmp, vE_ite, brE_t, brE_f, vE_idx, vE_slc, vE_call, vE_callk, vE_prim, vE_isin, vE_meth, vE_lc, vEs_nil, vEs_cons, vA_one, vA_cons, vO_one, vO_cons, andK_t, andK_f, orK_t, orK_f, vT_nil, vT_cons, vI_seq, seqK_tup, seqK_rls, seqK_loc, seqL_ok, vI_range1, rg1_int, vI_range2, rg2_int,
  xS_asg, asgK_nm, asgT_nm, asgT_tp2, asgT_tp3, asgK_tp2, asgK_tp3, xS_par, parK_2, parK_3, xS_setS, xS_aug, augV_ok, augK_add, augK_sub, xS_expr, xS_ret, xS_retN, xS_ite, brS_t, brS_f, xS_wh, whB_t, whB_f, whK_n, whK_c, whK_b, whK_r, xS_fo, foT_some, foK_n, foK_c, foK_b, foK_r, xS_brk, xS_cont, xS_pass, xSs_nil, xSs_cons, sqK_n, sqK_r, sqK_b, sqK_c,
  b_add, b_sub, b_mul, b_mulL, b_mulR, b_fdiv, b_mod, b_pow, b_addT, b_addL, addL_ok, b_repT, k_lt, k_le, k_gt, k_ge, k_eq, k_ne, k_isN, k_notN, q_int, q_bl, q_str, ofB_some, Option.map_some, tr_bl, tr_int, tr_non, tr_tup, tr_loc, trK_ok, td_bl, td_int, td_tup, i_tup, i_rls, i_loc, idxL_ok, okV_some, at0, at1, at2, at3, at_m1, tupK_ok, lstK_ok, negK_int, p_abs, p_int, p_intB, p_lenT, p_lenR, p_lenL, lenL_ok, p_max, p_min, p_tupT, p_tupL, tupL_ok, p_lstT, p_lstL, lstL_ok, isD_ok, m_app, appL_ok, m_pop, popL_ok, m_rev, revL_ok, recv_ok, recvL_ok, set_loc, setL_ok, setI_ok, new_eq, Bool.not_true, Bool.not_false, if_true, eq_self, decide_true, decide_false,
  List.set_cons_zero, List.set_cons_succ, List.getElem?_cons_zero, List.getElem?_cons_succ, List.length_cons, List.length_nil, Option.some.injEq])
local macro_rules | `(tactic| walk_at "ev*") => `(tactic| simp (config := { maxSteps := 3000000 }) (disch := first | assumption | omega | exact ⟨by omega, by omega⟩ | exact ⟨⟨by omega, by omega⟩, ⟨by omega, by omega⟩⟩ | exact Nat.le_of_ble_eq_true rfl | decide) only [bnd_ok, bnd_bad, binJ_eq, binK_eq, notK_eq, cmpJ_eq, cmpK_eq, idxJ_eq, idxK_eq, calJ_eq, clkJ_eq, clkK_eq, priJ_eq, isiJ_eq, metJ_eq, metI_t, metK_eq, lcJ_eq, lcK_eq, conJ_eq, conK_eq, andJ_eq, orJ_eq, rg2J_eq, nxtK_eq, setI1_eq, setI2_eq, setI3_eq, retK_eq,  vE_var, varK_ok, vE_int, vE_bl, vE_non, vE_str, vE_tup, vE_lst, vE_bin, vE_neg, vE_not, vE_and, vE_or, vE_cmp, vE_ite, brE_t, brE_f, vE_idx, vE_slc, vE_call, vE_callk, vE_prim, vE_isin, vE_meth, vE_lc, vEs_nil, vEs_cons, vA_one, vA_cons, vO_one, vO_cons, andK_t, andK_f, orK_t, orK_f, vT_nil, vT_cons, vI_seq, seqK_tup, seqK_rls, seqK_loc, seqL_ok, vI_range1, rg1_int, vI_range2, rg2_int,
  xS_asg, asgK_nm, asgT_nm, asgT_tp2, asgT_tp3, asgK_tp2, asgK_tp3, xS_par, parK_2, parK_3, xS_setS, xS_aug, augV_ok, augK_add, augK_sub, xS_expr, xS_ret, xS_retN, xS_ite, brS_t, brS_f, xS_wh, whB_t, whB_f, whK_n, whK_c, whK_b, whK_r, xS_fo, foT_some, foK_n, foK_c, foK_b, foK_r, xS_brk, xS_cont, xS_pass, xSs_nil, xSs_cons, sqK_n, sqK_r, sqK_b, sqK_c,
  b_add, b_sub, b_mul, b_mulL, b_mulR, b_fdiv, b_mod, b_pow, b_addT, b_addL, addL_ok, b_repT, k_lt, k_le, k_gt, k_ge, k_eq, k_ne, k_isN, k_notN, q_int, q_bl, q_str, ofB_some, Option.map_some, tr_bl, tr_int, tr_non, tr_tup, tr_loc, trK_ok, td_bl, td_int, td_tup, i_tup, i_rls, i_loc, idxL_ok, okV_some, at0, at1, at2, at3, at_m1, tupK_ok, lstK_ok, negK_int, p_abs, p_int, p_intB, p_lenT, p_lenR, p_lenL, lenL_ok, p_max, p_min, p_tupT, p_tupL, tupL_ok, p_lstT, p_lstL, lstL_ok, isD_ok, m_app, appL_ok, m_pop, popL_ok, m_rev, revL_ok, recv_ok, recvL_ok, set_loc, setL_ok, setI_ok, new_eq, Bool.not_true, Bool.not_false, if_true, eq_self, decide_true, decide_false,
  List.set_cons_zero, List.set_cons_succ, List.getElem?_cons_zero, List.getElem?_cons_succ, List.length_cons, List.length_nil, Option.some.injEq, *])
local macro_rules | `(tactic| walk_at "evs") => `(tactic| simp (config := { maxSteps := 3000000 }) (disch := first | assumption | omega | exact ⟨by omega, by omega⟩ | exact ⟨⟨by omega, by omega⟩, ⟨by omega, by omega⟩⟩ | exact Nat.le_of_ble_eq_true rfl | decide) only [bnd_ok, bnd_bad, binJ_eq, binK_eq, notK_eq, cmpJ_eq, cmpK_eq, idxJ_eq, idxK_eq, calJ_eq, clkJ_eq, clkK_eq, priJ_eq, isiJ_eq, metJ_eq, metI_t, metK_eq, lcJ_eq, lcK_eq, conJ_eq, conK_eq, andJ_eq, orJ_eq, rg2J_eq, nxtK_eq, setI1_eq, setI2_eq, setI3_eq, retK_eq,  vE_var, varK_ok, vE_int, vE_bl, vE_non, vE_str, vE_tup, vE_lst, vE_bin, vE_neg, vE_not, vE_and, vE_or, vE_cmp, vE_ite, brE_t, brE_f, vE_idx, vE_slc, vE_call, vE_callk, vE_prim, vE_isin, vE_meth, vE_lc, vEs_nil, vEs_cons, vA_one, vA_cons, vO_one, vO_cons, andK_t, andK_f, orK_t, orK_f, vT_nil, vT_cons, vI_seq, seqK_tup, seqK_rls, seqK_loc, seqL_ok, vI_range1, rg1_int, vI_range2, rg2_int,
  xS_asg, asgK_nm, asgT_nm, asgT_tp2, asgT_tp3, asgK_tp2, asgK_tp3, xS_par, parK_2, parK_3, xS_setS, xS_aug, augV_ok, augK_add, augK_sub, xS_expr, xS_ret, xS_retN, xS_ite, brS_t, brS_f, xS_wh, whB_t, whB_f, whK_n, whK_c, whK_b, whK_r, xS_fo, foT_some, foK_n, foK_c, foK_b, foK_r, xS_brk, xS_cont, xS_pass, xSs_nil, xSs_cons, sqK_n, sqK_r, sqK_b, sqK_c,
  b_add, b_sub, b_mul, b_mulL, b_mulR, b_fdiv, b_mod, b_pow, b_addT, b_addL, addL_ok, b_repT, k_lt, k_le, k_gt, k_ge, k_eq, k_ne, k_isN, k_notN, q_int, q_bl, q_str, ofB_some, Option.map_some, tr_bl, tr_int, tr_non, tr_tup, tr_loc, trK_ok, td_bl, td_int, td_tup, i_tup, i_rls, i_loc, idxL_ok, okV_some, at0, at1, at2, at3, at_m1, tupK_ok, lstK_ok, negK_int, p_abs, p_int, p_intB, p_lenT, p_lenR, p_lenL, lenL_ok, p_max, p_min, p_tupT, p_tupL, tupL_ok, p_lstT, p_lstL, lstL_ok, isD_ok, m_app, appL_ok, m_pop, popL_ok, m_rev, revL_ok, recv_ok, recvL_ok, set_loc, setL_ok, setI_ok, new_eq, Bool.not_true, Bool.not_false, if_true, eq_self, decide_true, decide_false,
  List.set_cons_zero, List.set_cons_succ, List.getElem?_cons_zero, List.getElem?_cons_succ, List.length_cons, List.length_nil, Option.some.injEq, List.cons_append, List.nil_append, List.append_assoc, Nat.reduceAdd, st_get, st_get0, st_set, st_set0, List.length_append, Nat.add_zero, Nat.zero_add, *])

/-! ### the helpers' texts -/
def B_bag : Ss := .cons (.asg (.nm 1) (.bin .add (.lc (.prim .abs (.cons (.prim .int (.cons (.var 3) .nil)) .nil)) (.nm 3) (.seq (.var 0)) .nil [3]) (.lst (.cons (.cint 7) .nil)))) (.cons (.asg (.nm 2) (.lst .nil)) (.cons (.ite (.cmp .eq (.bin .mod (.prim .int (.cons (.idx (.var 1) (.cint 0)) .nil)) (.cint 2)) (.cint 0)) (.cons (.asg (.nm 2) (.lc (.bin .fdiv (.var 3) (.cint 2)) (.nm 3) (.seq (.var 1)) (.cons (.cmp .ge (.var 3) (.bin .pow (.cint 10) (.cint 18))) .nil) [3])) (.cons (.expr (.meth .reverse (.var 2) .nil)) .nil)) .nil) (.cons (.ret (.lst (.cons (.cint 0) (.cons (.cint 0) (.cons (.var 2) (.cons (.lc (.bin .mod (.prim .int (.cons (.var 3) .nil)) (.cint 2147483647)) (.nm 3) (.seq (.var 1)) .nil [3]) .nil)))))) .nil)))
def B_draw : Ss := .cons (.setS (.var 0) (.cint 1) (.bin .add (.idx (.var 0) (.cint 1)) (.cint 1))) (.cons (.ite (.and (.cons (.cmp .eq (.idx (.var 0) (.cint 0)) (.cint 0)) (.cons (.cmp .gt (.prim .len (.cons (.idx (.var 0) (.cint 2)) .nil)) (.cint 0)) .nil))) (.cons (.setS (.var 0) (.cint 0) (.meth .pop (.idx (.var 0) (.cint 2)) .nil)) .nil) .nil) (.cons (.ite (.cmp .gt (.idx (.var 0) (.cint 0)) (.cint 0)) (.cons (.asg (.nm 2) (.bin .mod (.prim .int (.cons (.idx (.var 0) (.cint 0)) .nil)) (.var 1))) (.cons (.setS (.var 0) (.cint 0) (.bin .fdiv (.idx (.var 0) (.cint 0)) (.var 1))) (.cons (.ret (.var 2)) .nil))) .nil) (.cons (.asg (.nm 3) (.idx (.idx (.var 0) (.cint 3)) (.bin .mod (.prim .int (.cons (.idx (.var 0) (.cint 1)) .nil)) (.prim .len (.cons (.idx (.var 0) (.cint 3)) .nil))))) (.cons (.asg (.nm 4) (.bin .mod (.prim .int (.cons (.bin .add (.bin .add (.bin .mul (.var 3) (.cint 48271)) (.bin .mul (.idx (.var 0) (.cint 1)) (.cint 69621))) (.cint 1)) .nil)) (.cint 2147483647))) (.cons (.ret (.bin .mod (.bin .fdiv (.bin .mod (.prim .int (.cons (.bin .add (.bin .add (.bin .mul (.var 4) (.var 4)) (.bin .mul (.var 4) (.cint 16807))) (.bin .mul (.idx (.var 0) (.cint 1)) (.cint 40014))) .nil)) (.cint 2147483629)) (.cint 32)) (.var 1))) .nil)))))
def B_pick (draw : Nat) : Ss := .cons (.ret (.idx (.var 1) (.call draw (.cons (.var 0) (.cons (.prim .len (.cons (.var 1) .nil)) .nil))))) .nil
def B_same (same : Nat) : Ss := .cons (.ite (.cmp .isN (.var 1) (.cnon)) (.cons (.ret (.cmp .isN (.var 0) (.cnon))) .nil) .nil) (.cons (.ite (.or (.cons (.isin .bool (.var 1)) (.cons (.isin .bool (.var 0)) .nil))) (.cons (.ret (.and (.cons (.isin .bool (.var 1)) (.cons (.isin .bool (.var 0)) (.cons (.cmp .eq (.var 0) (.var 1)) .nil))))) .nil) .nil) (.cons (.ite (.isin .int (.var 1)) (.cons (.ret (.and (.cons (.isin .int (.var 0)) (.cons (.cmp .eq (.var 0) (.var 1)) .nil)))) .nil) .nil) (.cons (.ite (.isin .str (.var 1)) (.cons (.ret (.and (.cons (.isin .str (.var 0)) (.cons (.cmp .eq (.var 0) (.var 1)) .nil)))) .nil) .nil) (.cons (.ite (.or (.cons (.not (.isin .tuple (.var 1))) (.cons (.not (.isin .tuple (.var 0))) (.cons (.cmp .ne (.prim .len (.cons (.var 0) .nil)) (.prim .len (.cons (.var 1) .nil))) .nil)))) (.cons (.ret (.cbl false)) .nil) .nil) (.cons (.fo (.nm 2) (.range1 (.prim .len (.cons (.var 1) .nil))) (.cons (.ite (.not (.call same (.cons (.idx (.var 0) (.var 2)) (.cons (.idx (.var 1) (.var 2)) .nil)))) (.cons (.ret (.cbl false)) .nil) .nil) .nil)) (.cons (.ret (.cbl true)) .nil))))))
def B_gcdF : Ss := .cons (.par [0, 1] (.cons (.prim .abs (.cons (.var 0) .nil)) (.cons (.prim .abs (.cons (.var 1) .nil)) .nil))) (.cons (.fo (.nm 2) (.range1 (.cint 100000)) (.cons (.ite (.cmp .eq (.var 1) (.cint 0)) (.cons (.brk) .nil) .nil) (.cons (.par [0, 1] (.cons (.var 1) (.cons (.bin .mod (.prim .int (.cons (.var 0) .nil)) (.var 1)) .nil))) .nil))) (.cons (.ret (.var 0)) .nil))
def B_gcdW : Ss := .cons (.par [0, 1] (.cons (.prim .abs (.cons (.var 0) .nil)) (.cons (.prim .abs (.cons (.var 1) .nil)) .nil))) (.cons (.wh (.cmp .ne (.var 1) (.cint 0)) (.cons (.par [0, 1] (.cons (.var 1) (.cons (.bin .mod (.prim .int (.cons (.var 0) .nil)) (.var 1)) .nil))) .nil)) (.cons (.ret (.var 0)) .nil))
def B_divisor : Ss := .cons (.par [0, 1] (.cons (.prim .abs (.cons (.var 0) .nil)) (.cons (.prim .abs (.cons (.var 1) .nil)) .nil))) (.cons (.wh (.var 1) (.cons (.par [0, 1] (.cons (.var 1) (.cons (.bin .mod (.var 0) (.var 1)) .nil))) .nil)) (.cons (.ret (.var 0)) .nil))
def B_fr (gcd : Nat) : Ss := .cons (.asg (.nm 2) (.call gcd (.cons (.var 0) (.cons (.var 1) .nil)))) (.cons (.ret (.tup (.cons (.bin .fdiv (.var 0) (.var 2)) (.cons (.bin .fdiv (.var 1) (.var 2)) .nil)))) .nil)
def B_plus (fr : Nat) : Ss := .cons (.ret (.call fr (.cons (.bin .add (.bin .mul (.idx (.var 0) (.cint 0)) (.idx (.var 1) (.cint 1))) (.bin .mul (.idx (.var 1) (.cint 0)) (.idx (.var 0) (.cint 1)))) (.cons (.bin .mul (.idx (.var 0) (.cint 1)) (.idx (.var 1) (.cint 1))) .nil)))) .nil
def B_times (fr : Nat) : Ss := .cons (.ret (.call fr (.cons (.bin .mul (.idx (.var 0) (.cint 0)) (.idx (.var 1) (.cint 0))) (.cons (.bin .mul (.idx (.var 0) (.cint 1)) (.idx (.var 1) (.cint 1))) .nil)))) .nil
def B_more : Ss := .cons (.ret (.ite (.cmp .lt (.bin .mul (.idx (.var 0) (.cint 0)) (.idx (.var 1) (.cint 1))) (.bin .mul (.idx (.var 1) (.cint 0)) (.idx (.var 0) (.cint 1)))) (.var 1) (.var 0))) .nil
def B_gap (fr : Nat) : Ss := .cons (.ret (.call fr (.cons (.prim .abs (.cons (.bin .sub (.bin .mul (.idx (.var 0) (.cint 0)) (.idx (.var 1) (.cint 1))) (.bin .mul (.idx (.var 1) (.cint 0)) (.idx (.var 0) (.cint 1)))) .nil)) (.cons (.bin .mul (.idx (.var 0) (.cint 1)) (.idx (.var 1) (.cint 1))) .nil)))) .nil
def B_less : Ss := .cons (.ret (.cmp .lt (.bin .mul (.idx (.var 0) (.cint 0)) (.idx (.var 1) (.cint 1))) (.bin .mul (.idx (.var 1) (.cint 0)) (.idx (.var 0) (.cint 1))))) .nil
def B_greater (less : Nat) : Ss := .cons (.ret (.ite (.call less (.cons (.var 0) (.cons (.var 1) .nil))) (.var 1) (.var 0))) .nil

/-! ### gcd -/
theorem gcdW_loop (F : Fns) (c : E) (S : Store) (hc : ∀ x y : Int, truR (evE F c [some (.int x), some (.int y)] S) = .ok (decide (y ≠ 0)) S) (b : Ss)
    (hb : ∀ x y : Nat, y ≠ 0 → exSs F b [some (.int x), some (.int y)] S = .ok (.next, [some (.int y), some (.int ((x % y : Nat) : Int))]) S) :
    ∀ (y x : Nat), whS F c b [some (.int x), some (.int y)] S = .ok (.next, [some (.int (Nat.gcd x y)), some (.int 0)]) S := by
  intro y
  induction y using Nat.strongRecOn with
  | _ y ih =>
    intro x
    rw [whS_eq, hc]
    by_cases hy : y = 0
    · subst hy
      rw [show decide (((0 : Nat) : Int) ≠ 0) = false from rfl, bnd_ok, whB_f]
      simp
    · rw [show decide ((y : Int) ≠ 0) = true from decide_eq_true (by omega), bnd_ok, whB_t, hb x y hy, bnd_ok, whK_n, ih (x % y) (Nat.mod_lt _ (by omega)) y]
      rw [Nat.gcd_comm x y, Nat.gcd_rec y x, Nat.gcd_comm]
theorem e_divisor {P : Prg} {f : Nat} (hf : P f = some ⟨2, 2, B_divisor, true⟩) (n : Nat) (a b : Int) (S : Store) : callN P (n + 1) f [.int a, .int b] S = .ok (.int (Int.gcd a b)) S := by
  rw [callN_eq n _ _ hf rfl (Nat.le_of_ble_eq_true rfl)]
  refine end_pure (env := [some (.int (Int.gcd a b)), some (.int 0)]) ?_ rfl rfl
  show exSs (callN P n) B_divisor [some (.int a), some (.int b)] S = _
  unfold B_divisor
  have := gcdW_loop (callN P n) (.var 1) S (fun x y => by walk_at "ev"; simp [bne]; rfl) (.cons (.par [0, 1] (.cons (.var 1) (.cons (.bin .mod (.var 0) (.var 1)) .nil))) .nil) (fun x y hy => by
    have h2 : (0 : Int) < y := by omega
    walk_at "ev"
    simp) b.natAbs a.natAbs
  walk_at "ev"
  rw [this]
  walk_at "ev"
  rfl
theorem e_gcdW {P : Prg} {f : Nat} (hf : P f = some ⟨2, 2, B_gcdW, true⟩) (n : Nat) (a b : Int) (S : Store) : callN P (n + 1) f [.int a, .int b] S = .ok (.int (Int.gcd a b)) S := by
  rw [callN_eq n _ _ hf rfl (Nat.le_of_ble_eq_true rfl)]
  refine end_pure (env := [some (.int (Int.gcd a b)), some (.int 0)]) ?_ rfl rfl
  show exSs (callN P n) B_gcdW [some (.int a), some (.int b)] S = _
  unfold B_gcdW
  have := gcdW_loop (callN P n) (.cmp .ne (.var 1) (.cint 0)) S (fun x y => by walk_at "ev"; simp) (.cons (.par [0, 1] (.cons (.var 1) (.cons (.bin .mod (.prim .int (.cons (.var 0) .nil)) (.var 1)) .nil))) .nil) (fun x y hy => by
    have h2 : (0 : Int) < y := by omega
    walk_at "ev"
    simp) b.natAbs a.natAbs
  walk_at "ev"
  rw [this]
  walk_at "ev"
  rfl
theorem gcdF_loop (F : Fns) (S : Store) (w : Walk) (hw : w.here S) : ∀ (k : Nat) (items : List D) (x y : Nat) (o : Option D), 2 * k + 1 ≤ items.length → y < 2 ^ k →
    ∃ o', foS F (.nm 2) (.cons (.ite (.cmp .eq (.var 1) (.cint 0)) (.cons (.brk) .nil) .nil) (.cons (.par [0, 1] (.cons (.var 1) (.cons (.bin .mod (.prim .int (.cons (.var 0) .nil)) (.var 1)) .nil))) .nil)) w items [some (.int x), some (.int y), o] S
      = .ok (.next, [some (.int (Nat.gcd x y)), some (.int 0), o']) S := by
  have zero : ∀ (items : List D) (x : Nat) (o : Option D), 1 ≤ items.length → ∃ o', foS F (.nm 2) (.cons (.ite (.cmp .eq (.var 1) (.cint 0)) (.cons (.brk) .nil) .nil) (.cons (.par [0, 1] (.cons (.var 1) (.cons (.bin .mod (.prim .int (.cons (.var 0) .nil)) (.var 1)) .nil))) .nil)) w items [some (.int x), some (.int ((0 : Nat) : Int)), o] S
      = .ok (.next, [some (.int (Nat.gcd x 0)), some (.int 0), o']) S := by
    intro items x o hi
    cases items with
    | nil => simp at hi
    | cons d ds =>
      refine ⟨some d, ?_⟩
      rw [fo_cons _ _ _ _ _ _ _ _ hw]
      simp only [asgT]
      walk_at "ev"
      simp
      walk_at "ev"
  have one : ∀ (d : D) (ds : List D) (x y : Nat) (o : Option D), y ≠ 0 → foS F (.nm 2) (.cons (.ite (.cmp .eq (.var 1) (.cint 0)) (.cons (.brk) .nil) .nil) (.cons (.par [0, 1] (.cons (.var 1) (.cons (.bin .mod (.prim .int (.cons (.var 0) .nil)) (.var 1)) .nil))) .nil)) w (d :: ds) [some (.int x), some (.int y), o] S
      = foS F (.nm 2) (.cons (.ite (.cmp .eq (.var 1) (.cint 0)) (.cons (.brk) .nil) .nil) (.cons (.par [0, 1] (.cons (.var 1) (.cons (.bin .mod (.prim .int (.cons (.var 0) .nil)) (.var 1)) .nil))) .nil)) w ds [some (.int y), some (.int ((x % y : Nat) : Int)), some d] S := by
    intro d ds x y o hy
    have h2 : (0 : Int) < y := by omega
    have h3 : decide ((y : Int) = 0) = false := decide_eq_false (by omega)
    rw [fo_cons _ _ _ _ _ _ _ _ hw]
    simp only [asgT]
    walk_at "ev"
    rw [h3]
    walk_at "ev"
    simp
  intro k
  induction k with
  | zero =>
    intro items x y o hi hy
    have : y = 0 := by simpa using hy
    subst this
    exact zero items x o (by omega)
  | succ k ih =>
    intro items x y o hi hy
    by_cases h0 : y = 0
    · subst h0
      exact zero items x o (by omega)
    · cases items with
      | nil => simp at hi
      | cons d ds =>
        rw [one d ds x y o h0]
        have g1 : Nat.gcd x y = Nat.gcd y (x % y) := by rw [Nat.gcd_comm x y, Nat.gcd_rec y x, Nat.gcd_comm]
        rw [g1]
        have hz := Nat.mod_lt x (show 0 < y by omega)
        by_cases hz0 : x % y = 0
        · rw [hz0]
          simp only [List.length_cons] at hi
          exact zero ds y _ (by omega)
        · cases ds with
          | nil => simp at hi
          | cons e es =>
            rw [one e es y (x % y) _ hz0]
            have g2 : Nat.gcd y (x % y) = Nat.gcd (x % y) (y % (x % y)) := by rw [Nat.gcd_comm y, Nat.gcd_rec (x % y) y, Nat.gcd_comm]
            rw [g2]
            refine ih es (x % y) (y % (x % y)) _ (by simp only [List.length_cons] at hi; omega) ?_
            have h5 := Nat.mod_lt y (show 0 < x % y by omega)
            by_cases h6 : x % y ≤ 2 ^ k
            · omega
            · have h7 : y % (x % y) ≤ y - x % y := by
                rw [Nat.mod_eq_sub_mod (by omega)]
                exact Nat.mod_le _ _
              rw [Nat.pow_succ] at hy
              omega
theorem rng_len (lo hi : Int) : (rngK lo hi).length = (hi - lo).toNat := by unfold rngK; simp
theorem e_gcdF {P : Prg} {f : Nat} (hf : P f = some ⟨2, 3, B_gcdF, true⟩) (n : Nat) (a b : Int) (S : Store) (hb : b.natAbs < 2 ^ 40000) : callN P (n + 1) f [.int a, .int b] S = .ok (.int (Int.gcd a b)) S := by
  rw [callN_eq n _ _ hf rfl (Nat.le_of_ble_eq_true rfl)]
  obtain ⟨o, ho⟩ := gcdF_loop (callN P n) S ⟨rngK 0 100000, none⟩ True.intro 40000 (rngK 0 100000) a.natAbs b.natAbs none (by rw [rng_len]; decide) hb
  refine end_pure (env := [some (.int (Int.gcd a b)), some (.int 0), o]) ?_ rfl rfl
  show exSs (callN P n) B_gcdF [some (.int a), some (.int b), none] S = _
  unfold B_gcdF
  walk_at "ev"
  rw [ho]
  walk_at "ev"
  rfl

/-! ### fractions -/
def frD (p : Int × Int) : D := .tup [.int p.1, .int p.2]
def lowF (a b : Int) : Int × Int := (a / (Int.gcd a b : Int), b / (Int.gcd a b : Int))
def plusF (p q : Int × Int) : Int × Int := lowF (p.1 * q.2 + q.1 * p.2) (p.2 * q.2)
def timesF (p q : Int × Int) : Int × Int := lowF (p.1 * q.1) (p.2 * q.2)
def moreF (p q : Int × Int) : Int × Int := if p.1 * q.2 < q.1 * p.2 then q else p
structure Sm (p : Int × Int) : Prop where
  n : p.1.natAbs < 2 ^ 3000
  pos : 0 < p.2
  d : p.2.natAbs < 2 ^ 3000
theorem cl_fr (n : Nat) (p : Int × Int) : clD n (frD p) = true := rfl
def GcdOk (P : Prg) (g : Nat) : Prop := ∀ (n : Nat) (a b : Int) (S : Store), b.natAbs < 2 ^ 40000 → callN P (n + 1) g [.int a, .int b] S = .ok (.int (Int.gcd a b)) S
def FrOk (P : Prg) (f : Nat) : Prop := ∀ (n : Nat) (a b : Int) (S : Store), 0 < b → b.natAbs < 2 ^ 8000 → callN P (n + 2) f [.int a, .int b] S = .ok (frD (lowF a b)) S
def PlusOk (P : Prg) (f : Nat) : Prop := ∀ (n : Nat) (p q : Int × Int) (S : Store), Sm p → Sm q → callN P (n + 3) f [frD p, frD q] S = .ok (frD (plusF p q)) S
def TimesOk (P : Prg) (f : Nat) : Prop := ∀ (n : Nat) (p q : Int × Int) (S : Store), Sm p → Sm q → callN P (n + 3) f [frD p, frD q] S = .ok (frD (timesF p q)) S
def MoreOk (P : Prg) (f : Nat) : Prop := ∀ (n : Nat) (p q : Int × Int) (S : Store), Sm p → Sm q → callN P (n + 2) f [frD p, frD q] S = .ok (frD (moreF p q)) S
theorem pow_le_pow {a b : Nat} (h : a ≤ b) : (2 : Nat) ^ a ≤ 2 ^ b := Nat.pow_le_pow_right (by decide) h
theorem gcd_pos {a b : Int} (h : 0 < b) : 0 < Int.gcd a b := Int.gcd_pos_of_ne_zero_right a (by omega)
theorem gcd_le {a b : Int} (h : 0 < b) : Int.gcd a b ≤ b.natAbs := Int.gcd_le_natAbs_right a (by omega)
theorem cdiv_gcd {a b : Int} (h : 0 < b) (hb : b.natAbs < 2 ^ 8000) : CDivW x (Int.gcd a b : Int) := by
  have h1 := gcd_pos (a := a) h
  have h2 := gcd_le (a := a) h
  exact wide_div (b := 8000) (by omega) (by rw [Int.natAbs_natCast]; omega) (by decide) (by decide)
theorem gcdOk_W {P : Prg} {g : Nat} (h : P g = some ⟨2, 2, B_gcdW, true⟩) : GcdOk P g := fun n a b S _ => e_gcdW h n a b S
theorem gcdOk_F {P : Prg} {g : Nat} (h : P g = some ⟨2, 3, B_gcdF, true⟩) : GcdOk P g := fun n a b S hb => e_gcdF h n a b S hb
theorem gcdOk_D {P : Prg} {g : Nat} (h : P g = some ⟨2, 2, B_divisor, true⟩) : GcdOk P g := fun n a b S _ => e_divisor h n a b S
theorem frOk {P : Prg} {f g : Nat} (h : P f = some ⟨2, 3, B_fr g, true⟩) (hg : GcdOk P g) : FrOk P f := by
  intro n a b S h0 hb
  rw [callN_eq (n + 1) _ _ h rfl (Nat.le_of_ble_eq_true rfl)]
  refine end_pure (env := [some (.int a), some (.int b), some (.int (Int.gcd a b))]) ?_ rfl rfl
  show exSs (callN P (n + 1)) (B_fr g) [some (.int a), some (.int b), none] S = _
  unfold B_fr
  have e := hg n a b S (Nat.lt_of_lt_of_le hb (pow_le_pow (by decide)))
  have c1 : CDivW a (Int.gcd a b : Int) := cdiv_gcd h0 hb
  have c2 : CDivW b (Int.gcd a b : Int) := cdiv_gcd h0 hb
  walk_at "ev"
  rw [e]
  walk_at "ev"
  rfl
theorem sm_mul {a b : Int} (ha : a.natAbs < 2 ^ 3000) (hb : b.natAbs < 2 ^ 3000) : CMulW a b ∨ CMul a b := cmul_wide ha hb (by decide) (by decide) (by decide)
theorem sm_den {p q : Int × Int} (hp : Sm p) (hq : Sm q) : 0 < p.2 * q.2 ∧ (p.2 * q.2).natAbs < 2 ^ 8000 := by
  refine ⟨Int.mul_pos hp.pos hq.pos, Nat.lt_of_lt_of_le (wide_lt hp.d hq.d) (pow_le_pow (by decide))⟩
theorem plusOk {P : Prg} {f g : Nat} (h : P f = some ⟨2, 2, B_plus g, true⟩) (hg : FrOk P g) : PlusOk P f := by
  intro n p q S hp hq
  rw [callN_eq (n + 2) _ _ h rfl (Nat.le_of_ble_eq_true rfl)]
  refine end_pure (env := [some (frD p), some (frD q)]) ?_ rfl rfl
  show exSs (callN P (n + 2)) (B_plus g) [some (frD p), some (frD q)] S = _
  unfold B_plus frD
  have c1 := sm_mul hp.n hq.d
  have c2 := sm_mul hq.n hp.d
  have c3 := sm_mul hp.d hq.d
  have d := sm_den hp hq
  walk_at "ev"
  rw [hg n _ _ S d.1 d.2]
  walk_at "ev"
  rfl
theorem timesOk {P : Prg} {f g : Nat} (h : P f = some ⟨2, 2, B_times g, true⟩) (hg : FrOk P g) : TimesOk P f := by
  intro n p q S hp hq
  rw [callN_eq (n + 2) _ _ h rfl (Nat.le_of_ble_eq_true rfl)]
  refine end_pure (env := [some (frD p), some (frD q)]) ?_ rfl rfl
  show exSs (callN P (n + 2)) (B_times g) [some (frD p), some (frD q)] S = _
  unfold B_times frD
  have c1 := sm_mul hp.n hq.n
  have c3 := sm_mul hp.d hq.d
  have d := sm_den hp hq
  walk_at "ev"
  rw [hg n _ _ S d.1 d.2]
  walk_at "ev"
  rfl
theorem moreOk {P : Prg} {f : Nat} (h : P f = some ⟨2, 2, B_more, true⟩) : MoreOk P f := by
  intro n p q S hp hq
  rw [callN_eq (n + 1) _ _ h rfl (Nat.le_of_ble_eq_true rfl)]
  refine end_pure (env := [some (frD p), some (frD q)]) ?_ rfl rfl
  show exSs (callN P (n + 1)) B_more [some (frD p), some (frD q)] S = _
  unfold B_more frD moreF
  have c1 := sm_mul hp.n hq.d
  have c2 := sm_mul hq.n hp.d
  walk_at "ev"
  by_cases hc : p.1 * q.2 < q.1 * p.2
  · rw [decide_eq_true hc, if_pos hc]
    walk_at "ev"
  · rw [decide_eq_false hc, if_neg hc]
    walk_at "ev"
theorem e_less {P : Prg} {f : Nat} (h : P f = some ⟨2, 2, B_less, true⟩) (n : Nat) (p q : Int × Int) (S : Store) (hp : Sm p) (hq : Sm q) : callN P (n + 1) f [frD p, frD q] S = .ok (.bl (decide (p.1 * q.2 < q.1 * p.2))) S := by
  rw [callN_eq n _ _ h rfl (Nat.le_of_ble_eq_true rfl)]
  refine end_pure (env := [some (frD p), some (frD q)]) ?_ rfl rfl
  show exSs (callN P n) B_less [some (frD p), some (frD q)] S = _
  unfold B_less frD
  have c1 := sm_mul hp.n hq.d
  have c2 := sm_mul hq.n hp.d
  walk_at "ev"
theorem greaterOk {P : Prg} {f g : Nat} (h : P f = some ⟨2, 2, B_greater g, true⟩) (hg : P g = some ⟨2, 2, B_less, true⟩) : MoreOk P f := by
  intro n p q S hp hq
  rw [callN_eq (n + 1) _ _ h rfl (Nat.le_of_ble_eq_true rfl)]
  refine end_pure (env := [some (frD p), some (frD q)]) ?_ rfl rfl
  show exSs (callN P (n + 1)) (B_greater g) [some (frD p), some (frD q)] S = _
  unfold B_greater moreF
  have e := e_less hg n p q S hp hq
  walk_at "ev"
  rw [e]
  walk_at "ev"
  by_cases hc : p.1 * q.2 < q.1 * p.2
  · rw [decide_eq_true hc, if_pos hc]
    walk_at "ev"
  · rw [decide_eq_false hc, if_neg hc]
    walk_at "ev"

/-! ### the size of fractions -/
/-- the lower part divides D, the worth is at most V -/
structure Fb (D V : Nat) (p : Int × Int) : Prop where
  pos : 0 < p.2
  dvd : p.2 ∣ (D : Int)
  le : p.1.natAbs ≤ V * p.2.natAbs
theorem Fb.mono {D V W : Nat} {p : Int × Int} (h : Fb D V p) (hw : V ≤ W) : Fb D W p := ⟨h.pos, h.dvd, Nat.le_trans h.le (Nat.mul_le_mul_right _ hw)⟩
theorem Fb.up {D E V : Nat} {p : Int × Int} (h : Fb D V p) (hw : D ∣ E) : Fb E V p := ⟨h.pos, Int.dvd_trans h.dvd (Int.natCast_dvd_natCast.mpr hw), h.le⟩
theorem Fb.sm {D V : Nat} {p : Int × Int} (h : Fb D V p) (h0 : 0 < D) (h1 : D < 2 ^ 1500) (h2 : V < 2 ^ 1500) : Sm p := by
  have h3 : p.2.natAbs ≤ D := Nat.le_of_dvd h0 (Int.natCast_dvd_natCast.mp ((Int.natAbs_dvd).mpr h.dvd))
  have h4 : p.2.natAbs < 2 ^ 1500 := Nat.lt_of_le_of_lt h3 h1
  refine ⟨?_, h.pos, Nat.lt_of_lt_of_le h4 (pow_le_pow (by decide))⟩
  have h5 := h.le
  have h6 : V * p.2.natAbs < 2 ^ 1500 * 2 ^ 1500 := Nat.mul_lt_mul'' h2 h4
  rw [← Nat.pow_add] at h6
  omega
theorem low_parts {a b : Int} (h : 0 < b) : ∃ u v : Int, ∃ g : Nat, 0 < g ∧ lowF a b = (u, v) ∧ a = g * u ∧ b = g * v ∧ 0 < v ∧ Int.gcd u v = 1 := by
  have hg := gcd_pos (a := a) h
  obtain ⟨u, hu⟩ : (Int.gcd a b : Int) ∣ a := Int.gcd_dvd_left ..
  obtain ⟨v, hv⟩ : (Int.gcd a b : Int) ∣ b := Int.gcd_dvd_right ..
  generalize hG : Int.gcd a b = g at *
  have h1 : a / (g : Int) = u := by rw [hu]; exact Int.mul_ediv_cancel_left _ (by omega)
  have h2 : b / (g : Int) = v := by rw [hv]; exact Int.mul_ediv_cancel_left _ (by omega)
  refine ⟨u, v, g, hg, ?_, hu, hv, ?_, ?_⟩
  · unfold lowF
    rw [hG, h1, h2]
  · rcases Int.lt_or_le 0 v with z | z
    · exact z
    · have := Int.mul_nonpos_of_nonneg_of_nonpos (a := (g : Int)) (by omega) z
      omega
  · have e : Int.gcd (g * u) (g * v) = g * Int.gcd u v := by rw [Int.gcd_mul_left, Int.natAbs_natCast]
    rw [← hu, ← hv, hG] at e
    have : g * 1 = g * Int.gcd u v := by omega
    exact (Nat.eq_of_mul_eq_mul_left hg this).symm
theorem low_fb {a b : Int} {D V : Nat} (h : 0 < b) (hd : b ∣ a * D) (hv : a.natAbs ≤ V * b.natAbs) : Fb D V (lowF a b) := by
  obtain ⟨u, v, g, hg, e, ha, hb, hv0, hc⟩ := low_parts (a := a) h
  rw [e]
  refine ⟨hv0, ?_, ?_⟩
  · rw [ha, hb, Int.mul_assoc] at hd
    have : v ∣ u * D := Int.dvd_of_mul_dvd_mul_left (by omega) hd
    have h9 := Int.natAbs_dvd_natAbs.mpr this
    rw [Int.natAbs_mul] at h9
    have hc' : Nat.Coprime v.natAbs u.natAbs := by
      show Nat.gcd v.natAbs u.natAbs = 1
      rw [Nat.gcd_comm]; exact hc
    exact Int.natAbs_dvd_natAbs.mp (hc'.dvd_of_dvd_mul_left h9)
  · rw [ha, hb, Int.natAbs_mul, Int.natAbs_mul, Int.natAbs_natCast, Nat.mul_left_comm] at hv
    exact Nat.le_of_mul_le_mul_left hv hg
theorem fb_fr {a b : Int} {D V : Nat} (h : 0 < b) (hd : b ∣ (D : Int)) (hv : a.natAbs ≤ V * b.natAbs) : Fb D V (lowF a b) := low_fb h (Int.dvd_trans hd (Int.dvd_mul_left _ _)) hv
theorem fb_plus {D V W : Nat} {p q : Int × Int} (hp : Fb D V p) (hq : Fb D W q) : Fb D (V + W) (plusF p q) := by
  unfold plusF
  refine low_fb (Int.mul_pos hp.pos hq.pos) ?_ ?_
  · rw [Int.add_mul]
    obtain ⟨u, hu⟩ := hp.dvd
    obtain ⟨v, hv⟩ := hq.dvd
    refine Int.dvd_add ?_ ?_
    · conv => rhs; rhs; rw [hu]
      refine ⟨p.1 * u, ?_⟩
      simp only [Int.mul_assoc, Int.mul_left_comm, Int.mul_comm]
    · conv => rhs; rhs; rw [hv]
      refine ⟨q.1 * v, ?_⟩
      simp only [Int.mul_assoc, Int.mul_left_comm, Int.mul_comm]
  · have h1 := hp.le
    have h2 := hq.le
    refine Nat.le_trans (Int.natAbs_add_le _ _) ?_
    rw [Int.natAbs_mul, Int.natAbs_mul, Int.natAbs_mul, Nat.add_mul]
    have h3 := Nat.mul_le_mul_right q.2.natAbs h1
    have h4 := Nat.mul_le_mul_right p.2.natAbs h2
    have e3 : V * p.2.natAbs * q.2.natAbs = V * (p.2.natAbs * q.2.natAbs) := Nat.mul_assoc ..
    have e4 : W * q.2.natAbs * p.2.natAbs = W * (p.2.natAbs * q.2.natAbs) := by rw [Nat.mul_assoc, Nat.mul_comm q.2.natAbs]
    omega
theorem fb_times {D E V W : Nat} {p q : Int × Int} (hp : Fb D V p) (hq : Fb E W q) : Fb (D * E) (V * W) (timesF p q) := by
  unfold timesF
  refine low_fb (Int.mul_pos hp.pos hq.pos) ?_ ?_
  · rw [Int.natCast_mul]
    exact Int.dvd_trans (Int.mul_dvd_mul hp.dvd hq.dvd) (Int.dvd_mul_left _ _)
  · rw [Int.natAbs_mul, Int.natAbs_mul]
    have := Nat.mul_le_mul hp.le hq.le
    have e : V * p.2.natAbs * (W * q.2.natAbs) = V * W * (p.2.natAbs * q.2.natAbs) := by simp only [Nat.mul_assoc, Nat.mul_left_comm]
    omega
theorem fb_more {D V : Nat} {p q : Int × Int} (hp : Fb D V p) (hq : Fb D V q) : Fb D V (moreF p q) := by
  unfold moreF
  split
  · exact hq
  · exact hp
theorem fb_lit {a b : Int} {D V : Nat} (h : 0 < b) (hd : b ∣ (D : Int)) (hv : a.natAbs ≤ V * b.natAbs) : Fb D V (a, b) := ⟨h, hd, hv⟩
end
end SX
namespace SX
open PySem PySem.Spec PyProof.Rows L2
noncomputable section
open Classical
local macro_rules | `(tactic| walk_at "ev") => `(tactic| simp (config := { maxSteps := 3000000 }) (disch := first | assumption | omega | exact ⟨by omega, by omega⟩ | exact ⟨⟨by omega, by omega⟩, ⟨by omega, by omega⟩⟩ | exact Nat.le_of_ble_eq_true rfl | decide) only [bnd_ok, bnd_bad, binJ_eq, binK_eq, notK_eq, cmpJ_eq, cmpK_eq, idxJ_eq, idxK_eq, calJ_eq, clkJ_eq, clkK_eq, priJ_eq, isiJ_eq, metJ_eq, metI_t, metK_eq, lcJ_eq, lcK_eq, conJ_eq, conK_eq, andJ_eq, orJ_eq, rg2J_eq, nxtK_eq, setI1_eq, setI2_eq, setI3_eq, retK_eq,  vE_var, varK_ok, vE_int, vE_bl, vE_non, vE_str, vE_tup, vE_lst, vE_bin, vE_neg, vE_not, vE_and, vE_or, vE_cmp, vE_ite, brE_t, brE_f, vE_idx, vE_slc, vE_call, vE_callk, vE_prim, vE_isin, vE_meth, vE_lc, vEs_nil, vEs_cons, vA_one, vA_cons, vO_one, vO_cons, andK_t, andK_f, orK_t, orK_f, vT_nil, vT_cons, vI_seq, seqK_tup, seqK_rls, seqK_loc, seqL_ok, vI_range1, rg1_int, vI_range2, rg2_int,
  xS_asg, asgK_nm, asgT_nm, asgT_tp2, asgT_tp3, asgK_tp2, asgK_tp3, xS_par, parK_2, parK_3, xS_setS, xS_aug, augV_ok, augK_add, augK_sub, xS_expr, xS_ret, xS_retN, xS_ite, brS_t, brS_f, xS_wh, whB_t, whB_f, whK_n, whK_c, whK_b, whK_r, xS_fo, foT_some, foK_n, foK_c, foK_b, foK_r, xS_brk, xS_cont, xS_pass, xSs_nil, xSs_cons, sqK_n, sqK_r, sqK_b, sqK_c,
  b_add, b_sub, b_mul, b_mulL, b_mulR, b_fdiv, b_mod, b_pow, b_addT, b_addL, addL_ok, b_repT, k_lt, k_le, k_gt, k_ge, k_eq, k_ne, k_isN, k_notN, q_int, q_bl, q_str, ofB_some, Option.map_some, tr_bl, tr_int, tr_non, tr_tup, tr_loc, trK_ok, td_bl, td_int, td_tup, i_tup, i_rls, i_loc, idxL_ok, okV_some, at0, at1, at2, at3, at_m1, tupK_ok, lstK_ok, negK_int, p_abs, p_int, p_intB, p_lenT, p_lenR, p_lenL, lenL_ok, p_max, p_min, p_tupT, p_tupL, tupL_ok, p_lstT, p_lstL, lstL_ok, isD_ok, m_app, appL_ok, m_pop, popL_ok, m_rev, revL_ok, recv_ok, recvL_ok, set_loc, setL_ok, setI_ok, new_eq, Bool.not_true, Bool.not_false, if_true, eq_self, decide_true, decide_false,
  List.set_cons_zero, List.set_cons_succ, List.getElem?_cons_zero, List.getElem?_cons_succ, List.length_cons, List.length_nil, Option.some.injEq])
local macro_rules | `(tactic| walk_at "ev*") => `(tactic| simp (config := { maxSteps := 3000000 }) (disch := first | assumption | omega | exact ⟨by omega, by omega⟩ | exact ⟨⟨by omega, by omega⟩, ⟨by omega, by omega⟩⟩ | exact Nat.le_of_ble_eq_true rfl | decide) only [bnd_ok, bnd_bad, binJ_eq, binK_eq, notK_eq, cmpJ_eq, cmpK_eq, idxJ_eq, idxK_eq, calJ_eq, clkJ_eq, clkK_eq, priJ_eq, isiJ_eq, metJ_eq, metI_t, metK_eq, lcJ_eq, lcK_eq, conJ_eq, conK_eq, andJ_eq, orJ_eq, rg2J_eq, nxtK_eq, setI1_eq, setI2_eq, setI3_eq, retK_eq,  vE_var, varK_ok, vE_int, vE_bl, vE_non, vE_str, vE_tup, vE_lst, vE_bin, vE_neg, vE_not, vE_and, vE_or, vE_cmp, vE_ite, brE_t, brE_f, vE_idx, vE_slc, vE_call, vE_callk, vE_prim, vE_isin, vE_meth, vE_lc, vEs_nil, vEs_cons, vA_one, vA_cons, vO_one, vO_cons, andK_t, andK_f, orK_t, orK_f, vT_nil, vT_cons, vI_seq, seqK_tup, seqK_rls, seqK_loc, seqL_ok, vI_range1, rg1_int, vI_range2, rg2_int,
  xS_asg, asgK_nm, asgT_nm, asgT_tp2, asgT_tp3, asgK_tp2, asgK_tp3, xS_par, parK_2, parK_3, xS_setS, xS_aug, augV_ok, augK_add, augK_sub, xS_expr, xS_ret, xS_retN, xS_ite, brS_t, brS_f, xS_wh, whB_t, whB_f, whK_n, whK_c, whK_b, whK_r, xS_fo, foT_some, foK_n, foK_c, foK_b, foK_r, xS_brk, xS_cont, xS_pass, xSs_nil, xSs_cons, sqK_n, sqK_r, sqK_b, sqK_c,
  b_add, b_sub, b_mul, b_mulL, b_mulR, b_fdiv, b_mod, b_pow, b_addT, b_addL, addL_ok, b_repT, k_lt, k_le, k_gt, k_ge, k_eq, k_ne, k_isN, k_notN, q_int, q_bl, q_str, ofB_some, Option.map_some, tr_bl, tr_int, tr_non, tr_tup, tr_loc, trK_ok, td_bl, td_int, td_tup, i_tup, i_rls, i_loc, idxL_ok, okV_some, at0, at1, at2, at3, at_m1, tupK_ok, lstK_ok, negK_int, p_abs, p_int, p_intB, p_lenT, p_lenR, p_lenL, lenL_ok, p_max, p_min, p_tupT, p_tupL, tupL_ok, p_lstT, p_lstL, lstL_ok, isD_ok, m_app, appL_ok, m_pop, popL_ok, m_rev, revL_ok, recv_ok, recvL_ok, set_loc, setL_ok, setI_ok, new_eq, Bool.not_true, Bool.not_false, if_true, eq_self, decide_true, decide_false,
  List.set_cons_zero, List.set_cons_succ, List.getElem?_cons_zero, List.getElem?_cons_succ, List.length_cons, List.length_nil, Option.some.injEq, *])
local macro_rules | `(tactic| walk_at "evs") => `(tactic| simp (config := { maxSteps := 3000000 }) (disch := first | assumption | omega | exact ⟨by omega, by omega⟩ | exact ⟨⟨by omega, by omega⟩, ⟨by omega, by omega⟩⟩ | exact Nat.le_of_ble_eq_true rfl | decide) only [bnd_ok, bnd_bad, binJ_eq, binK_eq, notK_eq, cmpJ_eq, cmpK_eq, idxJ_eq, idxK_eq, calJ_eq, clkJ_eq, clkK_eq, priJ_eq, isiJ_eq, metJ_eq, metI_t, metK_eq, lcJ_eq, lcK_eq, conJ_eq, conK_eq, andJ_eq, orJ_eq, rg2J_eq, nxtK_eq, setI1_eq, setI2_eq, setI3_eq, retK_eq,  vE_var, varK_ok, vE_int, vE_bl, vE_non, vE_str, vE_tup, vE_lst, vE_bin, vE_neg, vE_not, vE_and, vE_or, vE_cmp, vE_ite, brE_t, brE_f, vE_idx, vE_slc, vE_call, vE_callk, vE_prim, vE_isin, vE_meth, vE_lc, vEs_nil, vEs_cons, vA_one, vA_cons, vO_one, vO_cons, andK_t, andK_f, orK_t, orK_f, vT_nil, vT_cons, vI_seq, seqK_tup, seqK_rls, seqK_loc, seqL_ok, vI_range1, rg1_int, vI_range2, rg2_int,
  xS_asg, asgK_nm, asgT_nm, asgT_tp2, asgT_tp3, asgK_tp2, asgK_tp3, xS_par, parK_2, parK_3, xS_setS, xS_aug, augV_ok, augK_add, augK_sub, xS_expr, xS_ret, xS_retN, xS_ite, brS_t, brS_f, xS_wh, whB_t, whB_f, whK_n, whK_c, whK_b, whK_r, xS_fo, foT_some, foK_n, foK_c, foK_b, foK_r, xS_brk, xS_cont, xS_pass, xSs_nil, xSs_cons, sqK_n, sqK_r, sqK_b, sqK_c,
  b_add, b_sub, b_mul, b_mulL, b_mulR, b_fdiv, b_mod, b_pow, b_addT, b_addL, addL_ok, b_repT, k_lt, k_le, k_gt, k_ge, k_eq, k_ne, k_isN, k_notN, q_int, q_bl, q_str, ofB_some, Option.map_some, tr_bl, tr_int, tr_non, tr_tup, tr_loc, trK_ok, td_bl, td_int, td_tup, i_tup, i_rls, i_loc, idxL_ok, okV_some, at0, at1, at2, at3, at_m1, tupK_ok, lstK_ok, negK_int, p_abs, p_int, p_intB, p_lenT, p_lenR, p_lenL, lenL_ok, p_max, p_min, p_tupT, p_tupL, tupL_ok, p_lstT, p_lstL, lstL_ok, isD_ok, m_app, appL_ok, m_pop, popL_ok, m_rev, revL_ok, recv_ok, recvL_ok, set_loc, setL_ok, setI_ok, new_eq, Bool.not_true, Bool.not_false, if_true, eq_self, decide_true, decide_false,
  List.set_cons_zero, List.set_cons_succ, List.getElem?_cons_zero, List.getElem?_cons_succ, List.length_cons, List.length_nil, Option.some.injEq, List.cons_append, List.nil_append, List.append_assoc, Nat.reduceAdd, st_get, st_get0, st_set, st_set0, List.length_append, Nat.add_zero, Nat.zero_add, *])

/-! ### the bag -/
structure Bag3 (S : Store) (l g c : Nat) (x k : Int) (gs cs : List Int) : Prop where
  hl : S[l]? = some (.lst [.int x, .int k, .loc g, .loc c])
  hg : S[g]? = some (.lst (gs.map .int))
  hc : S[c]? = some (.lst (cs.map .int))
  ne : cs ≠ []
  lg : l ≠ g
  lc : l ≠ c
  gc : g ≠ c
theorem get_lt {S : Store} {l : Nat} {o : SO} (h : S[l]? = some o) : l < S.length := (List.getElem?_eq_some_iff.mp h).1
theorem Bag3.set_l {S : Store} {l g c : Nat} {x k : Int} {gs cs : List Int} (h : Bag3 S l g c x k gs cs) (x' k' : Int) : Bag3 (S.set l (.lst [.int x', .int k', .loc g, .loc c])) l g c x' k' gs cs :=
  ⟨by rw [List.getElem?_set_self (get_lt h.hl)], by rw [List.getElem?_set_ne h.lg]; exact h.hg, by rw [List.getElem?_set_ne h.lc]; exact h.hc, h.ne, h.lg, h.lc, h.gc⟩
theorem Bag3.set_g {S : Store} {l g c : Nat} {x k : Int} {gs cs : List Int} (h : Bag3 S l g c x k gs cs) (gs' : List Int) : Bag3 (S.set g (.lst (gs'.map .int))) l g c x k gs' cs :=
  ⟨by rw [List.getElem?_set_ne (fun z => h.lg z.symm)]; exact h.hl, by rw [List.getElem?_set_self (get_lt h.hg)], by rw [List.getElem?_set_ne h.gc]; exact h.hc, h.ne, h.lg, h.lc, h.gc⟩
structure Off (S S' : Store) (l g : Nat) : Prop where
  len : S'.length = S.length
  same : ∀ j, j ≠ l → j ≠ g → S'[j]? = S[j]?
theorem Off.refl (S : Store) (l g : Nat) : Off S S l g := ⟨rfl, fun _ _ _ => rfl⟩
theorem Off.set_l {S S' : Store} {l g : Nat} (h : Off S S' l g) (o : SO) : Off S (S'.set l o) l g := ⟨by rw [List.length_set]; exact h.len, fun j h1 h2 => by rw [List.getElem?_set_ne (fun z => h1 z.symm)]; exact h.same j h1 h2⟩
theorem Off.set_g {S S' : Store} {l g : Nat} (h : Off S S' l g) (o : SO) : Off S (S'.set g o) l g := ⟨by rw [List.length_set]; exact h.len, fun j h1 h2 => by rw [List.getElem?_set_ne (fun z => h2 z.symm)]; exact h.same j h1 h2⟩
theorem ixN_nat {n i : Nat} (h : i < n) : ixN n (i : Int) = some i := by
  unfold ixN
  rw [if_pos (by omega), if_pos (by omega)]
  simp
theorem ixN4_0 : ixN (0 + 1 + 1 + 1 + 1) (0 : Int) = some 0 := rfl
theorem ixN4_1 : ixN (0 + 1 + 1 + 1 + 1) (1 : Int) = some 1 := rfl
theorem draw3 {P : Prg} {f : Nat} (hf : P f = some ⟨2, 5, B_draw, false⟩) (n : Nat) (S : Store) (l g c : Nat) (x k : Int) (gs cs : List Int) (m : Int)
    (hB : Bag3 S l g c x k gs cs) (hm : 0 < m) (hm2 : m.natAbs < 2 ^ 8000) :
    ∃ r S' x' k' gs', callN P (n + 1) f [.loc l, .int m] S = .ok (.int r) S' ∧ 0 ≤ r ∧ r < m ∧ Bag3 S' l g c x' k' gs' cs ∧ Off S S' l g := by
  rw [callN_eq n _ _ hf rfl (Nat.le_of_ble_eq_true rfl)]
  have cd : ∀ y, CDivW y m := fun y => wide_div (b := 8000) hm hm2 (by decide) (by decide)
  suffices H : ∃ r S' x' k' gs' env, exSs (callN P n) B_draw [some (.loc l), some (.int m), none, none, none] S = .ok (.ret (.int r), env) S' ∧ 0 ≤ r ∧ r < m ∧ Bag3 S' l g c x' k' gs' cs ∧ Off S S' l g by
    obtain ⟨r, S', x', k', gs', env, h, h2⟩ := H
    exact ⟨r, S', x', k', gs', end_any h rfl, h2⟩
  unfold B_draw
  -- the counter
  have hl := hB.hl
  rw [xSs_cons]
  have s1 : exS (callN P n) (.setS (.var 0) (.cint 1) (.bin .add (.idx (.var 0) (.cint 1)) (.cint 1))) [some (.loc l), some (.int m), none, none, none] S
      = .ok (.next, [some (.loc l), some (.int m), none, none, none]) (S.set l (.lst [.int x, .int (k + 1), .loc g, .loc c])) := by
    walk_at "ev*"
    rw [ixN4_1]
    walk_at "ev*"
  rw [s1]
  have hB1 := hB.set_l x (k + 1)
  have hO1 := (Off.refl S l g).set_l (.lst [.int x, .int (k + 1), .loc g, .loc c])
  clear s1
  generalize S.set l (.lst [.int x, .int (k + 1), .loc g, .loc c]) = S1 at hB1 hO1
  rw [bnd_ok, sqK_n, xSs_cons]
  clear hl hB
  generalize k + 1 = k1 at hB1
  have hl := hB1.hl
  have hg := hB1.hg
  -- a great cell
  have s2 : ∃ S2 x2 gs2, exS (callN P n) (.ite (.and (.cons (.cmp .eq (.idx (.var 0) (.cint 0)) (.cint 0)) (.cons (.cmp .gt (.prim .len (.cons (.idx (.var 0) (.cint 2)) .nil)) (.cint 0)) .nil))) (.cons (.setS (.var 0) (.cint 0) (.meth .pop (.idx (.var 0) (.cint 2)) .nil)) .nil) .nil) [some (.loc l), some (.int m), none, none, none] S1
      = .ok (.next, [some (.loc l), some (.int m), none, none, none]) S2 ∧ Bag3 S2 l g c x2 k1 gs2 cs ∧ Off S S2 l g := by
    by_cases hx : x = 0
    · rcases List.eq_nil_or_concat gs with h0 | ⟨gs', y, h0⟩
      · subst h0
        refine ⟨S1, x, [], ?_, hB1, hO1⟩
        subst hx
        have e2 : decide ((0 : Int) < ((List.map D.int []).length : Int)) = false := rfl
        walk_at "ev*"
      · rw [List.concat_eq_append] at h0
        subst h0
        refine ⟨(S1.set g (.lst (gs'.map .int))).set l (.lst [.int y, .int k1, .loc g, .loc c]), y, gs', ?_, (hB1.set_g gs').set_l y k1, (hO1.set_g _).set_l _⟩
        have hB2 := (hB1.set_g gs').hl
        subst hx
        have e2 : decide ((0 : Int) < ((List.map D.int gs' ++ [D.int y]).length : Int)) = true := decide_eq_true (by simp only [List.length_map, List.length_append, List.length_cons]; omega)
        have hg' : S1[g]? = some (.lst (gs'.map .int ++ [.int y])) := by rw [hg]; simp
        clear hg
        walk_at "ev*"
        rw [ixN4_0]
        walk_at "ev*"
    · refine ⟨S1, x, gs, ?_, hB1, hO1⟩
      walk_at "ev*"
  obtain ⟨S2, x2, gs2, e2, hB2, hO2⟩ := s2
  rw [e2, bnd_ok, sqK_n]
  clear e2 hl hg hB1 hO1
  have hl := hB2.hl
  have hc := hB2.hc
  by_cases hx : 0 < x2
  · have cd2 := cd x2
    refine ⟨x2 % m, S2.set l (.lst [.int (x2 / m), .int k1, .loc g, .loc c]), x2 / m, k1, gs2, [some (.loc l), some (.int m), some (.int (x2 % m)), none, none], ?_, Int.emod_nonneg _ (by omega), Int.emod_lt_of_pos _ hm, hB2.set_l _ _, hO2.set_l _⟩
    walk_at "ev*"
    rw [ixN4_0]
    walk_at "ev*"
  · have hn : 0 < cs.length := by have := hB2.ne; cases cs with | nil => exact absurd rfl this | cons a b => simp
    have hcl : (0 : Int) < (((cs.map D.int).length : Nat) : Int) := by rw [List.length_map]; omega
    have hi1 := Int.emod_nonneg k1 (show ((cs.map D.int).length : Int) ≠ 0 by omega)
    have hi2 := Int.emod_lt_of_pos k1 hcl
    have hat : atI (cs.map D.int) (k1 % ((cs.map D.int).length : Int)) = some (.int (cs[(k1 % ((cs.map D.int).length : Int)).toNat]'(by rw [List.length_map] at hi1 hi2 ⊢; omega))) := by
      rw [at_nat hi1 (by omega)]
      simp
    generalize cs[(k1 % ((cs.map D.int).length : Int)).toNat]'(by rw [List.length_map] at hi1 hi2 ⊢; omega) = q at hat
    have m1 := Int.emod_nonneg (q * 48271 + k1 * 69621 + 1) (show (2147483647 : Int) ≠ 0 by decide)
    have m2 := Int.emod_lt_of_pos (q * 48271 + k1 * 69621 + 1) (show (0 : Int) < 2147483647 by decide)
    generalize hmx : (q * 48271 + k1 * 69621 + 1) % 2147483647 = mx at m1 m2
    have n1 := Int.emod_nonneg (mx * mx + mx * 16807 + k1 * 40014) (show (2147483629 : Int) ≠ 0 by decide)
    have n2 := Int.emod_lt_of_pos (mx * mx + mx * 16807 + k1 * 40014) (show (0 : Int) < 2147483629 by decide)
    refine ⟨(mx * mx + mx * 16807 + k1 * 40014) % 2147483629 / 32 % m, S2, x2, k1, gs2, [some (.loc l), some (.int m), none, some (.int q), some (.int mx)], ?_, Int.emod_nonneg _ (by omega), Int.emod_lt_of_pos _ hm, hB2, hO2⟩
    have c1 : CMulW q 48271 ∨ CMul q 48271 := cmul_small (by decide)
    have c2 : CMulW k1 69621 ∨ CMul k1 69621 := cmul_small (by decide)
    have c3 : CMulW mx mx ∨ CMul mx mx := cmul_small (by omega)
    have c4 : CMulW mx 16807 ∨ CMul mx 16807 := cmul_small (by decide)
    have c5 : CMulW k1 40014 ∨ CMul k1 40014 := cmul_small (by decide)
    have c6 : CDivW ((mx * mx + mx * 16807 + k1 * 40014) % 2147483629) 32 := wide_div (b := 8) (by decide) (by decide) (by decide) (by decide)
    walk_at "ev*"

/-! ### the bag's part of the store -/
/-- Sb holds the bag at l and nothing that leads out -/
structure Bag (Sb : Store) (l : Nat) : Prop where
  bag : ∃ g c x k gs cs, Bag3 Sb l g c x k gs cs
  cl : ∀ (j : Nat) (o : SO), Sb[j]? = some o → clO Sb.length o = true
theorem bag_app {Sb G : Store} {l g c : Nat} {x k : Int} {gs cs : List Int} (h : Bag3 Sb l g c x k gs cs) : Bag3 (Sb ++ G) l g c x k gs cs :=
  ⟨by rw [List.getElem?_append_left (get_lt h.hl)]; exact h.hl, by rw [List.getElem?_append_left (get_lt h.hg)]; exact h.hg, by rw [List.getElem?_append_left (get_lt h.hc)]; exact h.hc, h.ne, h.lg, h.lc, h.gc⟩
theorem off_app {Sb G S' : Store} {l g : Nat} (h : Off (Sb ++ G) S' l g) (hl : l < Sb.length) (hg : g < Sb.length) : ∃ Sb', S' = Sb' ++ G ∧ Off Sb Sb' l g := by
  refine ⟨S'.take Sb.length, ?_, ?_, ?_⟩
  · have : S'.drop Sb.length = G := by
      apply List.ext_getElem?
      intro j
      rw [List.getElem?_drop, h.same _ (by omega) (by omega), st_get]
    conv => lhs; rw [← List.take_append_drop Sb.length S', this]
  · rw [List.length_take, h.len, List.length_append]
    omega
  · intro j h1 h2
    by_cases hj : j < Sb.length
    · rw [List.getElem?_take_of_lt hj, h.same j h1 h2, List.getElem?_append_left hj]
    · rw [List.getElem?_eq_none (by rw [List.length_take]; omega), List.getElem?_eq_none (by omega)]
theorem clDs_ints (n : Nat) : ∀ gs : List Int, clDs n (gs.map .int) = true
  | [] => rfl
  | a :: gs => by
    rw [List.map_cons, clDs, clDs_ints n gs, Bool.and_true]
    rfl
mutual
theorem clD_up {n m : Nat} (h : n ≤ m) : ∀ d : D, clD n d = true → clD m d = true
  | .loc l, hd => by
    unfold clD at hd ⊢
    simp only [decide_eq_true_eq] at hd ⊢
    omega
  | .tup ds, hd => by unfold clD at hd ⊢; exact clDs_up h ds hd
  | .rls ds, hd => by unfold clD at hd ⊢; exact clDs_up h ds hd
  | .non, _ => rfl
  | .bl _, _ => rfl
  | .int _, _ => rfl
  | .str _, _ => rfl
theorem clDs_up {n m : Nat} (h : n ≤ m) : ∀ ds : List D, clDs n ds = true → clDs m ds = true
  | [], _ => rfl
  | d :: ds, hd => by
    unfold clDs at hd ⊢
    rw [Bool.and_eq_true] at hd ⊢
    exact ⟨clD_up h d hd.1, clDs_up h ds hd.2⟩
end
theorem cl_up {n m : Nat} (h : n ≤ m) : ∀ o : SO, clO n o = true → clO m o = true
  | .lst ds, ho => clDs_up h ds ho
/-- bag draws: the drawing function at l gives a number below m and keeps the bag -/
def DrawOk (P : Prg) (f : Nat) : Prop := ∀ (n : Nat) (Sb G : Store) (l : Nat) (m : Int), Bag Sb l → 0 < m → m.natAbs < 2 ^ 8000 →
  ∃ r Sb', callN P (n + 1) f [.loc l, .int m] (Sb ++ G) = .ok (.int r) (Sb' ++ G) ∧ 0 ≤ r ∧ r < m ∧ Bag Sb' l ∧ Sb'.length = Sb.length
theorem drawOk {P : Prg} {f : Nat} (hf : P f = some ⟨2, 5, B_draw, false⟩) : DrawOk P f := by
  intro n Sb G l m hB hm hm2
  obtain ⟨g, c, x, k, gs, cs, h⟩ := hB.bag
  obtain ⟨r, S', x', k', gs', e, h0, h1, h2, h3⟩ := draw3 hf n (Sb ++ G) l g c x k gs cs m (bag_app h) hm hm2
  obtain ⟨Sb', rfl, hO⟩ := off_app h3 (get_lt h.hl) (get_lt h.hg)
  refine ⟨r, Sb', e, h0, h1, ⟨⟨g, c, x', k', gs', cs, ?_⟩, ?_⟩, hO.len⟩
  · have hl := get_lt h.hl
    have hg := get_lt h.hg
    have hc := get_lt h.hc
    have hn := hO.len
    have a := h2.hl
    have b := h2.hg
    have d := h2.hc
    rw [List.getElem?_append_left (by omega)] at a b d
    exact ⟨a, b, d, h2.ne, h2.lg, h2.lc, h2.gc⟩
  · intro j o hj
    have hl := get_lt h.hl
    have hg := get_lt h.hg
    have hc := get_lt h.hc
    have hn := hO.len
    rw [hn]
    by_cases j1 : j = l
    · subst j1
      have a := h2.hl
      rw [List.getElem?_append_left (by omega), hj] at a
      cases a
      simp [clO, clDs, clD, hg, hc]
    · by_cases j2 : j = g
      · subst j2
        have a := h2.hg
        rw [List.getElem?_append_left (by omega), hj] at a
        cases a
        exact clDs_ints _ _
      · rw [hO.same j j1 j2] at hj
        exact hB.cl j o hj
/-- the same, at the end of a def that forgets -/
theorem end_trunc {fd : Fd} {Sb Sb' G : Store} {l : Nat} {r : Res (Flow × Env)} {d : D} {env : Env} (H : Store) (e : r = .ok (.ret d, env) (Sb' ++ (G ++ H))) (hp : fd.pure = true) (hB : Bag Sb' l) (hn : Sb'.length = Sb.length) (hd : clD (Sb ++ G).length d = true) : endF fd (Sb ++ G) r = .ok d (Sb' ++ G) := by
  rw [end_ret e hp ?_ hd]
  · congr 1
    rw [← List.append_assoc, List.take_append_of_le_length (by simp only [List.length_append]; omega)]
    rw [List.take_of_length_le (by simp only [List.length_append]; omega)]
  · refine ⟨by simp only [List.length_append]; omega, fun j hj => ?_⟩
    by_cases hj2 : j < Sb.length
    · right
      rw [List.getElem?_append_left (by omega)]
      have : j < Sb'.length := by omega
      refine ⟨Sb'[j], List.getElem?_eq_getElem this, ?_⟩
      have := hB.cl j _ (List.getElem?_eq_getElem this)
      refine cl_up ?_ _ this
      rw [List.length_append]
      omega
    · left
      rw [← List.append_assoc, List.getElem?_append_left (by rw [List.length_append] at hj ⊢; omega), List.getElem?_append_right (by omega), List.getElem?_append_right (by omega), hn]
/-! ### picking -/
def PickOk (P : Prg) (f : Nat) : Prop := ∀ (n : Nat) (Sb G : Store) (l j : Nat) (ds : List D), Bag Sb l → G[j]? = some (.lst ds) → ds ≠ [] → ds.length < 2 ^ 60 →
  ∃ d Sb', callN P (n + 2) f [.loc l, .loc (Sb.length + j)] (Sb ++ G) = .ok d (Sb' ++ G) ∧ d ∈ ds ∧ Bag Sb' l ∧ Sb'.length = Sb.length
def PickTOk (P : Prg) (f : Nat) : Prop := ∀ (n : Nat) (Sb G : Store) (l : Nat) (ds : List D), Bag Sb l → ds ≠ [] → ds.length < 2 ^ 60 →
  ∃ d Sb', callN P (n + 2) f [.loc l, .tup ds] (Sb ++ G) = .ok d (Sb' ++ G) ∧ d ∈ ds ∧ Bag Sb' l ∧ Sb'.length = Sb.length
theorem len_pos {α : Type} {ds : List α} (h : ds ≠ []) : 0 < ds.length := by cases ds with | nil => exact absurd rfl h | cons a b => simp
theorem small_abs {m : Nat} (h : m < 2 ^ 60) : (m : Int).natAbs < 2 ^ 8000 := by
  rw [Int.natAbs_natCast]
  exact Nat.lt_of_lt_of_le h (pow_le_pow (by decide))
theorem pickOk {P : Prg} {f g : Nat} (hf : P f = some ⟨2, 2, B_pick g, false⟩) (hg : DrawOk P g) : PickOk P f := by
  intro n Sb G l j ds hB hj hne hlen
  have hp := len_pos hne
  obtain ⟨r, Sb', e, h0, h1, h2, h3⟩ := hg n Sb G l (ds.length : Int) hB (by omega) (small_abs hlen)
  refine ⟨ds[r.toNat]'(by omega), Sb', ?_, List.getElem_mem _, h2, h3⟩
  rw [callN_eq (n + 1) _ _ hf rfl (Nat.le_of_ble_eq_true rfl)]
  refine end_any (env := [some (.loc l), some (.loc (Sb.length + j))]) ?_ rfl
  show exSs (callN P (n + 1)) (B_pick g) [some (.loc l), some (.loc (Sb.length + j))] (Sb ++ G) = _
  unfold B_pick
  have e1 : (Sb ++ G)[Sb.length + j]? = some (.lst ds) := by rw [st_get]; exact hj
  have e2 : (Sb' ++ G)[Sb.length + j]? = some (.lst ds) := by rw [← h3, st_get]; exact hj
  have e3 := at_nat (xs := ds) h0 (by omega)
  walk_at "ev*"
theorem pickTOk {P : Prg} {f g : Nat} (hf : P f = some ⟨2, 2, B_pick g, false⟩) (hg : DrawOk P g) : PickTOk P f := by
  intro n Sb G l ds hB hne hlen
  have hp := len_pos hne
  obtain ⟨r, Sb', e, h0, h1, h2, h3⟩ := hg n Sb G l (ds.length : Int) hB (by omega) (small_abs hlen)
  refine ⟨ds[r.toNat]'(by omega), Sb', ?_, List.getElem_mem _, h2, h3⟩
  rw [callN_eq (n + 1) _ _ hf rfl (Nat.le_of_ble_eq_true rfl)]
  refine end_any (env := [some (.loc l), some (.tup ds)]) ?_ rfl
  show exSs (callN P (n + 1)) (B_pick g) [some (.loc l), some (.tup ds)] (Sb ++ G) = _
  unfold B_pick
  have e3 := at_nat (xs := ds) h0 (by omega)
  walk_at "ev*"

/-! ### list comprehensions whose own scope reads nothing that changes -/
theorem lc_map (F : Fns) (env : Env) (S : Store) (t : Tg) (own : List Nat) (elt : E) (w : Walk) (hw : w.here S) (g : D → D) : ∀ (items acc : List D), acc.length + items.length < LINE →
    (∀ d ∈ items, ∃ env1, asgT t d S (wipeE env own) = some env1 ∧ evE F elt env1 S = .ok (g d) S) →
    lcS F env t own .nil elt w items acc S = .ok (acc ++ items.map g) S
  | [], acc, _, _ => by rw [lc_nil _ _ _ _ _ _ _ _ _ hw, List.map_nil, List.append_nil]
  | d :: ds, acc, hl, h => by
    obtain ⟨env1, e1, e2⟩ := h d (List.mem_cons_self ..)
    rw [List.length_cons] at hl
    rw [lc_cons _ _ _ _ _ _ _ _ _ _ _ hw, e1]
    unfold lcT
    dsimp only
    rw [vT_nil, bnd_ok]
    unfold lcB
    rw [if_pos rfl, e2, bnd_ok, if_pos (by omega)]
    rw [lc_map F env S t own elt w hw g ds (acc ++ [g d]) (by rw [List.length_append]; simp only [List.length_cons, List.length_nil]; omega) (fun x hx => h x (List.mem_cons_of_mem _ hx))]
    rw [List.map_cons, List.append_assoc]
    rfl
theorem lc_filt (F : Fns) (env : Env) (S : Store) (t : Tg) (own : List Nat) (test elt : E) (w : Walk) (hw : w.here S) (p : D → Bool) (g : D → D) : ∀ (items acc : List D), acc.length + items.length < LINE →
    (∀ d ∈ items, ∃ env1, asgT t d S (wipeE env own) = some env1 ∧ truR (evE F test env1 S) = .ok (p d) S ∧ (p d = true → evE F elt env1 S = .ok (g d) S)) →
    lcS F env t own (.cons test .nil) elt w items acc S = .ok (acc ++ (items.filter p).map g) S
  | [], acc, _, _ => by rw [lc_nil _ _ _ _ _ _ _ _ _ hw, List.filter_nil, List.map_nil, List.append_nil]
  | d :: ds, acc, hl, h => by
    obtain ⟨env1, e1, e2, e3⟩ := h d (List.mem_cons_self ..)
    rw [List.length_cons] at hl
    rw [lc_cons _ _ _ _ _ _ _ _ _ _ _ hw, e1]
    unfold lcT
    dsimp only
    rw [vT_cons, e2, bnd_ok]
    unfold lcB
    cases hp : p d with
    | false =>
      rw [if_neg (by decide)]
      rw [lc_filt F env S t own test elt w hw p g ds acc (by omega) (fun x hx => h x (List.mem_cons_of_mem _ hx))]
      rw [List.filter_cons_of_neg (by rw [hp]; decide)]
    | true =>
      rw [if_pos rfl, e3 hp, bnd_ok, if_pos (by omega)]
      rw [lc_filt F env S t own test elt w hw p g ds (acc ++ [g d]) (by rw [List.length_append]; simp only [List.length_cons, List.length_nil]; omega) (fun x hx => h x (List.mem_cons_of_mem _ hx))]
      rw [List.filter_cons_of_pos hp, List.map_cons, List.append_assoc]
      rfl
end
end SX
namespace SX
open PySem PySem.Spec PyProof.Rows L2
noncomputable section
open Classical
local macro_rules | `(tactic| walk_at "ev") => `(tactic| simp (config := { maxSteps := 3000000 }) (disch := first | assumption | omega | exact ⟨by omega, by omega⟩ | exact ⟨⟨by omega, by omega⟩, ⟨by omega, by omega⟩⟩ | exact Nat.le_of_ble_eq_true rfl | decide) only [bnd_ok, bnd_bad, binJ_eq, binK_eq, notK_eq, cmpJ_eq, cmpK_eq, idxJ_eq, idxK_eq, calJ_eq, clkJ_eq, clkK_eq, priJ_eq, isiJ_eq, metJ_eq, metI_t, metK_eq, lcJ_eq, lcK_eq, conJ_eq, conK_eq, andJ_eq, orJ_eq, rg2J_eq, nxtK_eq, setI1_eq, setI2_eq, setI3_eq, retK_eq,  vE_var, varK_ok, vE_int, vE_bl, vE_non, vE_str, vE_tup, vE_lst, vE_bin, vE_neg, vE_not, vE_and, vE_or, vE_cmp, vE_ite, brE_t, brE_f, vE_idx, vE_slc, vE_call, vE_callk, vE_prim, vE_isin, vE_meth, vE_lc, vEs_nil, vEs_cons, vA_one, vA_cons, vO_one, vO_cons, andK_t, andK_f, orK_t, orK_f, vT_nil, vT_cons, vI_seq, seqK_tup, seqK_rls, seqK_loc, seqL_ok, vI_range1, rg1_int, vI_range2, rg2_int,
  xS_asg, asgK_nm, asgT_nm, asgT_tp2, asgT_tp3, asgK_tp2, asgK_tp3, xS_par, parK_2, parK_3, xS_setS, xS_aug, augV_ok, augK_add, augK_sub, xS_expr, xS_ret, xS_retN, xS_ite, brS_t, brS_f, xS_wh, whB_t, whB_f, whK_n, whK_c, whK_b, whK_r, xS_fo, foT_some, foK_n, foK_c, foK_b, foK_r, xS_brk, xS_cont, xS_pass, xSs_nil, xSs_cons, sqK_n, sqK_r, sqK_b, sqK_c,
  b_add, b_sub, b_mul, b_mulL, b_mulR, b_fdiv, b_mod, b_pow, b_addT, b_addL, addL_ok, b_repT, k_lt, k_le, k_gt, k_ge, k_eq, k_ne, k_isN, k_notN, q_int, q_bl, q_str, ofB_some, Option.map_some, tr_bl, tr_int, tr_non, tr_tup, tr_loc, trK_ok, td_bl, td_int, td_tup, i_tup, i_rls, i_loc, idxL_ok, okV_some, at0, at1, at2, at3, at_m1, tupK_ok, lstK_ok, negK_int, p_abs, p_int, p_intB, p_lenT, p_lenR, p_lenL, lenL_ok, p_max, p_min, p_tupT, p_tupL, tupL_ok, p_lstT, p_lstL, lstL_ok, isD_ok, m_app, appL_ok, m_pop, popL_ok, m_rev, revL_ok, recv_ok, recvL_ok, set_loc, setL_ok, setI_ok, new_eq, Bool.not_true, Bool.not_false, if_true, eq_self, decide_true, decide_false,
  List.set_cons_zero, List.set_cons_succ, List.getElem?_cons_zero, List.getElem?_cons_succ, List.length_cons, List.length_nil, Option.some.injEq])
local macro_rules | `(tactic| walk_at "ev*") => `(tactic| simp (config := { maxSteps := 3000000 }) (disch := first | assumption | omega | exact ⟨by omega, by omega⟩ | exact ⟨⟨by omega, by omega⟩, ⟨by omega, by omega⟩⟩ | exact Nat.le_of_ble_eq_true rfl | decide) only [bnd_ok, bnd_bad, binJ_eq, binK_eq, notK_eq, cmpJ_eq, cmpK_eq, idxJ_eq, idxK_eq, calJ_eq, clkJ_eq, clkK_eq, priJ_eq, isiJ_eq, metJ_eq, metI_t, metK_eq, lcJ_eq, lcK_eq, conJ_eq, conK_eq, andJ_eq, orJ_eq, rg2J_eq, nxtK_eq, setI1_eq, setI2_eq, setI3_eq, retK_eq,  vE_var, varK_ok, vE_int, vE_bl, vE_non, vE_str, vE_tup, vE_lst, vE_bin, vE_neg, vE_not, vE_and, vE_or, vE_cmp, vE_ite, brE_t, brE_f, vE_idx, vE_slc, vE_call, vE_callk, vE_prim, vE_isin, vE_meth, vE_lc, vEs_nil, vEs_cons, vA_one, vA_cons, vO_one, vO_cons, andK_t, andK_f, orK_t, orK_f, vT_nil, vT_cons, vI_seq, seqK_tup, seqK_rls, seqK_loc, seqL_ok, vI_range1, rg1_int, vI_range2, rg2_int,
  xS_asg, asgK_nm, asgT_nm, asgT_tp2, asgT_tp3, asgK_tp2, asgK_tp3, xS_par, parK_2, parK_3, xS_setS, xS_aug, augV_ok, augK_add, augK_sub, xS_expr, xS_ret, xS_retN, xS_ite, brS_t, brS_f, xS_wh, whB_t, whB_f, whK_n, whK_c, whK_b, whK_r, xS_fo, foT_some, foK_n, foK_c, foK_b, foK_r, xS_brk, xS_cont, xS_pass, xSs_nil, xSs_cons, sqK_n, sqK_r, sqK_b, sqK_c,
  b_add, b_sub, b_mul, b_mulL, b_mulR, b_fdiv, b_mod, b_pow, b_addT, b_addL, addL_ok, b_repT, k_lt, k_le, k_gt, k_ge, k_eq, k_ne, k_isN, k_notN, q_int, q_bl, q_str, ofB_some, Option.map_some, tr_bl, tr_int, tr_non, tr_tup, tr_loc, trK_ok, td_bl, td_int, td_tup, i_tup, i_rls, i_loc, idxL_ok, okV_some, at0, at1, at2, at3, at_m1, tupK_ok, lstK_ok, negK_int, p_abs, p_int, p_intB, p_lenT, p_lenR, p_lenL, lenL_ok, p_max, p_min, p_tupT, p_tupL, tupL_ok, p_lstT, p_lstL, lstL_ok, isD_ok, m_app, appL_ok, m_pop, popL_ok, m_rev, revL_ok, recv_ok, recvL_ok, set_loc, setL_ok, setI_ok, new_eq, Bool.not_true, Bool.not_false, if_true, eq_self, decide_true, decide_false,
  List.set_cons_zero, List.set_cons_succ, List.getElem?_cons_zero, List.getElem?_cons_succ, List.length_cons, List.length_nil, Option.some.injEq, *])
local macro_rules | `(tactic| walk_at "evs") => `(tactic| simp (config := { maxSteps := 3000000 }) (disch := first | assumption | omega | exact ⟨by omega, by omega⟩ | exact ⟨⟨by omega, by omega⟩, ⟨by omega, by omega⟩⟩ | exact Nat.le_of_ble_eq_true rfl | decide) only [bnd_ok, bnd_bad, binJ_eq, binK_eq, notK_eq, cmpJ_eq, cmpK_eq, idxJ_eq, idxK_eq, calJ_eq, clkJ_eq, clkK_eq, priJ_eq, isiJ_eq, metJ_eq, metI_t, metK_eq, lcJ_eq, lcK_eq, conJ_eq, conK_eq, andJ_eq, orJ_eq, rg2J_eq, nxtK_eq, setI1_eq, setI2_eq, setI3_eq, retK_eq,  vE_var, varK_ok, vE_int, vE_bl, vE_non, vE_str, vE_tup, vE_lst, vE_bin, vE_neg, vE_not, vE_and, vE_or, vE_cmp, vE_ite, brE_t, brE_f, vE_idx, vE_slc, vE_call, vE_callk, vE_prim, vE_isin, vE_meth, vE_lc, vEs_nil, vEs_cons, vA_one, vA_cons, vO_one, vO_cons, andK_t, andK_f, orK_t, orK_f, vT_nil, vT_cons, vI_seq, seqK_tup, seqK_rls, seqK_loc, seqL_ok, vI_range1, rg1_int, vI_range2, rg2_int,
  xS_asg, asgK_nm, asgT_nm, asgT_tp2, asgT_tp3, asgK_tp2, asgK_tp3, xS_par, parK_2, parK_3, xS_setS, xS_aug, augV_ok, augK_add, augK_sub, xS_expr, xS_ret, xS_retN, xS_ite, brS_t, brS_f, xS_wh, whB_t, whB_f, whK_n, whK_c, whK_b, whK_r, xS_fo, foT_some, foK_n, foK_c, foK_b, foK_r, xS_brk, xS_cont, xS_pass, xSs_nil, xSs_cons, sqK_n, sqK_r, sqK_b, sqK_c,
  b_add, b_sub, b_mul, b_mulL, b_mulR, b_fdiv, b_mod, b_pow, b_addT, b_addL, addL_ok, b_repT, k_lt, k_le, k_gt, k_ge, k_eq, k_ne, k_isN, k_notN, q_int, q_bl, q_str, ofB_some, Option.map_some, tr_bl, tr_int, tr_non, tr_tup, tr_loc, trK_ok, td_bl, td_int, td_tup, i_tup, i_rls, i_loc, idxL_ok, okV_some, at0, at1, at2, at3, at_m1, tupK_ok, lstK_ok, negK_int, p_abs, p_int, p_intB, p_lenT, p_lenR, p_lenL, lenL_ok, p_max, p_min, p_tupT, p_tupL, tupL_ok, p_lstT, p_lstL, lstL_ok, isD_ok, m_app, appL_ok, m_pop, popL_ok, m_rev, revL_ok, recv_ok, recvL_ok, set_loc, setL_ok, setI_ok, new_eq, Bool.not_true, Bool.not_false, if_true, eq_self, decide_true, decide_false,
  List.set_cons_zero, List.set_cons_succ, List.getElem?_cons_zero, List.getElem?_cons_succ, List.length_cons, List.length_nil, Option.some.injEq, List.cons_append, List.nil_append, List.append_assoc, Nat.reduceAdd, st_get, st_get0, st_set, st_set0, List.length_append, Nat.add_zero, Nat.zero_add, *])

/-! ### the bag is laid -/
theorem rev_ints (gs : List Int) : (gs.map D.int).reverse = gs.reverse.map .int := by rw [List.map_reverse]
theorem filter_ints (p : Int → Bool) (q : D → Bool) (h : ∀ i, q (.int i) = p i) : ∀ xs : List Int, (xs.map D.int).filter q = (xs.filter p).map .int
  | [] => rfl
  | x :: xs => by
    rw [List.map_cons, List.filter_cons, List.filter_cons, h, filter_ints p q h xs]
    cases p x <;> rfl
def bagS0 (ns T : List Int) (a : List SO) : Store := [.lst (ns.map fun (i : Int) => D.int (i.natAbs : Int)), .lst [.int 7], .lst (T.map D.int)] ++ a
def dInt : D → Int
  | .int i => i
  | _ => 0
theorem map_dInt (h : Int → Int) (xs : List Int) : (xs.map D.int).map (fun d => D.int (h (dInt d))) = (xs.map h).map D.int := by
  rw [List.map_map, List.map_map]
  rfl
theorem e_bag {P : Prg} {f : Nat} (hf : P f = some ⟨1, 4, B_bag, false⟩) (n : Nat) (ns : List Int) (hn : ns.length ≤ 1000) :
    ∃ Sb l, callN P (n + 1) f [.rls (ns.map .int)] [] = .ok (.loc l) Sb ∧ Bag Sb l := by
  rw [callN_eq n _ _ hf rfl (Nat.le_of_ble_eq_true rfl)]
  suffices HH : ∃ Sb l env, exSs (callN P n) B_bag [some (.rls (ns.map .int)), none, none, none] [] = .ok (.ret (.loc l), env) Sb ∧ Bag Sb l by
    obtain ⟨Sb, l, env, h, h2⟩ := HH
    exact ⟨Sb, l, end_any h rfl, h2⟩
  unfold B_bag
  let T : List Int := ns.map (fun i => (i.natAbs : Int)) ++ [7]
  have hT : ns.map (fun i => (i.natAbs : Int)) ++ [7] = T := rfl
  have hTl : T.length = ns.length + 1 := by rw [← hT, List.length_append, List.length_map]; rfl
  have L0 : LINE = 16777216 := rfl
  have l1 := lc_map (callN P n) [some (.rls (ns.map .int)), none, none, none] [] (.nm 3) [3] (.prim .abs (.cons (.prim .int (.cons (.var 3) .nil)) .nil)) ⟨ns.map .int, none⟩ True.intro (fun d => .int ((dInt d).natAbs : Int)) (ns.map .int) [] (by rw [List.length_map]; simp only [List.length_nil]; omega) (fun d hd => by
    obtain ⟨i, hi, rfl⟩ := List.mem_map.mp hd
    refine ⟨[some (.rls (ns.map .int)), none, none, some (.int i)], rfl, ?_⟩
    walk_at "ev"
    rfl)
  rw [map_dInt (fun i => (i.natAbs : Int)), List.nil_append] at l1
  have e0 : 0 < T.length := by omega
  have e0' : atI (T.map D.int) 0 = some (.int T[0]) := by
    rw [at_nat (by decide) (by rw [List.length_map]; exact e0)]
    simp
  have hlen : (List.map D.int (List.map (fun i => ((i.natAbs : Int))) ns)).length + ([D.int 7] : List D).length ≤ LINE := by rw [List.length_map, List.length_map]; simp only [List.length_cons, List.length_nil]; omega
  have hS : (List.map D.int (List.map (fun i => ((i.natAbs : Int))) ns)) ++ [D.int 7] = T.map D.int := by rw [← hT, List.map_append]; rfl
  rw [xSs_cons]
  have s1 : exS (callN P n) (.asg (.nm 1) (.bin .add (.lc (.prim .abs (.cons (.prim .int (.cons (.var 3) .nil)) .nil)) (.nm 3) (.seq (.var 0)) .nil [3]) (.lst (.cons (.cint 7) .nil)))) [some (.rls (ns.map .int)), none, none, none] []
      = .ok (.next, [some (.rls (ns.map .int)), some (.loc 2), none, none]) [.lst ((ns.map (fun i => (i.natAbs : Int))).map D.int), .lst [.int 7], .lst (T.map D.int)] := by
    walk_at "ev"
    rw [l1]
    walk_at "ev"
    show (addL _ (some (.lst _)) (some (.lst _))).bnd _ = _
    rw [addL_ok _ hlen, hS]
    rfl
  rw [s1, bnd_ok, sqK_n]
  generalize (ns.map (fun i => (i.natAbs : Int))) = A0
  clear s1 l1 hlen hS hT
  -- the rests
  have l3 : ∀ (S : Store) (env : Env) (w : Walk), w.here S → (∀ i : Int, asgT (.nm 3) (.int i) S (wipeE env [3]) = some (env.set 3 (some (.int i)))) → env.length = 4 → lcS (callN P n) env (.nm 3) [3] .nil (.bin .mod (.prim .int (.cons (.var 3) .nil)) (.cint 2147483647)) w (T.map D.int) [] S = .ok ((T.map (· % 2147483647)).map D.int) S := by
    intro S env w hw hq hle
    have := lc_map (callN P n) env S (.nm 3) [3] (.bin .mod (.prim .int (.cons (.var 3) .nil)) (.cint 2147483647)) w hw (fun d => .int (dInt d % 2147483647)) (T.map .int) [] (by rw [List.length_map]; simp only [List.length_nil]; omega) (fun d hd => by
      obtain ⟨i, hi, rfl⟩ := List.mem_map.mp hd
      refine ⟨_, hq i, ?_⟩
      have e3 : (env.set 3 (some (D.int i)))[3]? = some (some (.int i)) := List.getElem?_set_self (by omega)
      walk_at "ev*"
      rfl)
    rw [map_dInt (fun i => i % 2147483647), List.nil_append] at this
    exact this
  have l2 : ∀ (S : Store) (env : Env) (w : Walk), w.here S → (∀ i : Int, asgT (.nm 3) (.int i) S (wipeE env [3]) = some (env.set 3 (some (.int i)))) → env.length = 4 → lcS (callN P n) env (.nm 3) [3] (.cons (.cmp .ge (.var 3) (.bin .pow (.cint 10) (.cint 18))) .nil) (.bin .fdiv (.var 3) (.cint 2)) w (T.map D.int) [] S = .ok (((T.filter fun i => decide (10 ^ 18 ≤ i)).map (· / 2)).map D.int) S := by
    intro S env w hw hq hle
    have := lc_filt (callN P n) env S (.nm 3) [3] (.cmp .ge (.var 3) (.bin .pow (.cint 10) (.cint 18))) (.bin .fdiv (.var 3) (.cint 2)) w hw (fun d => decide (10 ^ 18 ≤ dInt d)) (fun d => .int (dInt d / 2)) (T.map .int) [] (by rw [List.length_map]; simp only [List.length_nil]; omega) (fun d hd => by
      obtain ⟨i, hi, rfl⟩ := List.mem_map.mp hd
      have e3 : (env.set 3 (some (D.int i)))[3]? = some (some (.int i)) := List.getElem?_set_self (by omega)
      have c1 : CPow 10 18 := ⟨by decide, by decide, by decide⟩
      have c2 : CDivW i 2 := wide_div (b := 8) (by decide) (by decide) (by decide) (by decide)
      refine ⟨_, hq i, ?_, fun _ => ?_⟩
      · walk_at "ev*"
        rfl
      · walk_at "ev*"
        rfl)
    rw [filter_ints (fun i => decide (10 ^ 18 ≤ i)) _ (fun i => rfl), map_dInt (fun i => i / 2), List.nil_append] at this
    exact this
  have hCne : T.map (· % 2147483647) ≠ [] := fun z => by
    have := congrArg List.length z
    rw [List.length_map] at this
    simp only [List.length_nil] at this
    omega
  generalize (T.map (· % 2147483647)) = C at l3 hCne
  generalize ((T.filter fun i => decide (10 ^ 18 ≤ i)).map (· / 2)) = G at l2
  by_cases hev : T[0] % 2 = 0
  · refine ⟨[.lst (A0.map .int), .lst [.int 7], .lst (T.map D.int), .lst [], .lst (G.reverse.map .int), .lst (C.map .int), .lst [.int 0, .int 0, .loc 4, .loc 5]], 6, [some (.rls (ns.map .int)), some (.loc 2), some (.loc 4), none], ?_, ⟨4, 5, 0, 0, G.reverse, C, rfl, rfl, rfl, hCne, by decide, by decide, by decide⟩, ?_⟩
    · have q2 := l2 [.lst (A0.map .int), .lst [.int 7], .lst (T.map D.int), .lst []] [some (.rls (ns.map .int)), some (.loc 2), some (.loc 3), none] ⟨T.map .int, some 2⟩ rfl (fun i => rfl) rfl
      have q3 := l3 [.lst (A0.map .int), .lst [.int 7], .lst (T.map D.int), .lst [], .lst (G.reverse.map .int)] [some (.rls (ns.map .int)), some (.loc 2), some (.loc 4), none] ⟨T.map .int, some 2⟩ rfl (fun i => rfl) rfl
      have q4 := rev_ints G
      walk_at "evs"
    · intro j o hj
      rcases j with _ | _ | _ | _ | _ | _ | _ | j
      all_goals first
        | (simp only [List.getElem?_cons_zero, List.getElem?_cons_succ, Option.some.injEq] at hj; subst hj; first | exact clDs_ints _ _ | rfl)
        | (simp only [List.getElem?_cons_zero, List.getElem?_cons_succ, List.getElem?_nil] at hj; cases hj)
  · refine ⟨[.lst (A0.map .int), .lst [.int 7], .lst (T.map D.int), .lst [], .lst (C.map .int), .lst [.int 0, .int 0, .loc 3, .loc 4]], 5, [some (.rls (ns.map .int)), some (.loc 2), some (.loc 3), none], ?_, ⟨3, 4, 0, 0, [], C, rfl, rfl, rfl, hCne, by decide, by decide, by decide⟩, ?_⟩
    · have q3 := l3 [.lst (A0.map .int), .lst [.int 7], .lst (T.map D.int), .lst []] [some (.rls (ns.map .int)), some (.loc 2), some (.loc 3), none] ⟨T.map .int, some 2⟩ rfl (fun i => rfl) rfl
      walk_at "evs"
    · intro j o hj
      rcases j with _ | _ | _ | _ | _ | _ | j
      all_goals first
        | (simp only [List.getElem?_cons_zero, List.getElem?_cons_succ, Option.some.injEq] at hj; subst hj; first | exact clDs_ints _ _ | rfl)
        | (simp only [List.getElem?_cons_zero, List.getElem?_cons_succ, List.getElem?_nil] at hj; cases hj)

/-! ### likeness -/
mutual
def plain : D → Bool
  | .loc _ => false
  | .rls _ => false
  | .tup ds => plains ds && decide (ds.length < 4611686018427387904)
  | _ => true
def plains : List D → Bool
  | [] => true
  | d :: ds => plain d && plains ds
end
mutual
def depD : D → Nat
  | .tup ds => depDs ds + 1
  | _ => 0
def depDs : List D → Nat
  | [] => 0
  | d :: ds => max (depD d) (depDs ds)
end
theorem dep_mem : ∀ (ds : List D) (d : D), d ∈ ds → depD d ≤ depDs ds
  | e :: ds, d, h => by
    unfold depDs
    rcases List.mem_cons.mp h with rfl | h
    · omega
    · have := dep_mem ds d h
      omega
theorem plain_mem : ∀ (ds : List D), plains ds = true → ∀ d, d ∈ ds → plain d = true
  | e :: ds, hp, d, h => by
    unfold plains at hp
    rw [Bool.and_eq_true] at hp
    rcases List.mem_cons.mp h with rfl | h
    · exact hp.1
    · exact plain_mem ds hp.2 d h
theorem rng_cons {lo hi : Int} (h : lo < hi) : rngK lo hi = .int lo :: rngK (lo + 1) hi := by
  unfold rngK
  obtain ⟨m, hm⟩ : ∃ m, (hi - lo).toNat = m + 1 := ⟨(hi - lo).toNat - 1, by omega⟩
  rw [hm, show (hi - (lo + 1)).toNat = m by omega, List.range_succ_eq_map, List.map_cons, List.map_map]
  congr 1
  · simp
  · apply List.map_congr_left
    intro k hk
    show D.int (lo + ((k + 1 : Nat) : Int)) = D.int (lo + 1 + (k : Int))
    congr 1
    omega
theorem rng_nil {lo hi : Int} (h : hi ≤ lo) : rngK lo hi = [] := by
  unfold rngK
  rw [show (hi - lo).toNat = 0 by omega]
  rfl
theorem len62 {n : Nat} (h : n < 4611686018427387904) : R62 (n : Int) := ⟨by omega, by omega⟩
def SameOk (P : Prg) (f : Nat) : Prop := ∀ (k n : Nat) (d : D) (S : Store), plain d = true → depD d ≤ k → callN P (n + k + 1) f [d, d] S = .ok (.bl true) S
theorem sameOk {P : Prg} {f : Nat} (hf : P f = some ⟨2, 3, B_same f, true⟩) : SameOk P f := by
  intro k
  induction k with
  | zero =>
    intro n d S hp hd
    rw [callN_eq _ _ _ hf rfl (Nat.le_of_ble_eq_true rfl)]
    refine end_pure (env := [some d, some d, none]) ?_ rfl rfl
    show exSs (callN P (n + 0)) (B_same f) [some d, some d, none] S = _
    unfold B_same
    cases d with
    | loc l => cases hp
    | rls l => cases hp
    | tup ds => unfold depD at hd; omega
    | non =>
      have e : isNonD .non = true := rfl
      walk_at "ev*"
    | bl b =>
      have e : isNonD (.bl b) = false := rfl
      have e1 : isK .bool (kdD (.bl b)) = true := rfl
      walk_at "ev*"
    | int i =>
      have e : isNonD (.int i) = false := rfl
      have e1 : isK .bool (kdD (.int i)) = false := rfl
      have e2 : isK .int (kdD (.int i)) = true := rfl
      walk_at "ev*"
    | str i =>
      have e : isNonD (.str i) = false := rfl
      have e1 : isK .bool (kdD (.str i)) = false := rfl
      have e2 : isK .int (kdD (.str i)) = false := rfl
      have e3 : isK .str (kdD (.str i)) = true := rfl
      walk_at "ev*"
  | succ k ih =>
    intro n d S hp hd
    by_cases ht : ∃ ds, d = .tup ds
    · obtain ⟨ds, rfl⟩ := ht
      rw [callN_eq _ _ _ hf rfl (Nat.le_of_ble_eq_true rfl)]
      unfold depD at hd
      unfold plain at hp
      rw [Bool.and_eq_true, decide_eq_true_eq] at hp
      obtain ⟨hp, hpl⟩ := hp
      have loop : ∀ (w : Walk) (hw : w.here S) (m : Nat) (lo : Nat) (o : Option D), lo + m = ds.length → ∃ o', foS (callN P (n + k + 1)) (.nm 2) (.cons (.ite (.not (.call f (.cons (.idx (.var 0) (.var 2)) (.cons (.idx (.var 1) (.var 2)) .nil)))) (.cons (.ret (.cbl false)) .nil) .nil) .nil) w (rngK (lo : Int) (ds.length : Int)) [some (.tup ds), some (.tup ds), o] S
          = .ok (.next, [some (.tup ds), some (.tup ds), o']) S := by
        intro w hw m
        induction m with
        | zero =>
          intro lo o hlo
          rw [rng_nil (by omega)]
          exact ⟨o, fo_nil _ _ _ _ _ _ hw⟩
        | succ m ihm =>
          intro lo o hlo
          rw [rng_cons (by omega), fo_cons _ _ _ _ _ _ _ _ hw]
          obtain ⟨o', h'⟩ := ihm (lo + 1) (some (.int lo)) (by omega)
          refine ⟨o', ?_⟩
          rw [Int.natCast_add] at h'
          have e1 := at_nat (xs := ds) (i := (lo : Int)) (by omega) (by omega)
          have hm : ds[(lo : Int).toNat]'(by omega) ∈ ds := List.getElem_mem _
          generalize ds[(lo : Int).toNat]'(by omega) = d at hm e1
          have e2 := ih n d S (plain_mem _ hp _ hm) (by have := dep_mem _ _ hm; omega)
          simp only [asgT]
          walk_at "ev*"
          exact h'
      obtain ⟨o', hl⟩ := loop ⟨rngK 0 (ds.length : Int), none⟩ (here_none _ _) ds.length 0 none (by omega)
      refine end_pure (env := [some (.tup ds), some (.tup ds), o']) ?_ rfl rfl
      show exSs (callN P (n + k + 1)) (B_same f) [some (.tup ds), some (.tup ds), none] S = _
      unfold B_same
      have e : isNonD (.tup ds) = false := rfl
      have e1 : isK .bool (kdD (.tup ds)) = false := rfl
      have e2 : isK .int (kdD (.tup ds)) = false := rfl
      have e3 : isK .str (kdD (.tup ds)) = false := rfl
      have e4 : isK .tuple (kdD (.tup ds)) = true := rfl
      have hr : R62 (ds.length : Int) := len62 hpl
      clear ih loop hf
      rw [show ((0 : Nat) : Int) = 0 from rfl] at hl
      walk_at "ev*"
    · have : depD d ≤ k := by
        cases d with
        | tup ds => exact absurd ⟨ds, rfl⟩ ht
        | _ => exact Nat.zero_le _
      have := ih (n + 1) d S hp this
      rw [show n + 1 + k + 1 = n + (k + 1) + 1 by omega] at this
      exact this
end
end SX
namespace SX
open PySem PySem.Spec PyProof.Rows L2
noncomputable section
open Classical
local macro_rules | `(tactic| walk_at "ev") => `(tactic| simp (config := { maxSteps := 3000000 }) (disch := first | assumption | omega | exact ⟨by omega, by omega⟩ | exact ⟨⟨by omega, by omega⟩, ⟨by omega, by omega⟩⟩ | exact Nat.le_of_ble_eq_true rfl | decide) only [bnd_ok, bnd_bad, binJ_eq, binK_eq, notK_eq, cmpJ_eq, cmpK_eq, idxJ_eq, idxK_eq, calJ_eq, clkJ_eq, clkK_eq, priJ_eq, isiJ_eq, metJ_eq, metI_t, metK_eq, lcJ_eq, lcK_eq, conJ_eq, conK_eq, andJ_eq, orJ_eq, rg2J_eq, nxtK_eq, setI1_eq, setI2_eq, setI3_eq, retK_eq,  vE_var, varK_ok, vE_int, vE_bl, vE_non, vE_str, vE_tup, vE_lst, vE_bin, vE_neg, vE_not, vE_and, vE_or, vE_cmp, vE_ite, brE_t, brE_f, vE_idx, vE_slc, vE_call, vE_callk, vE_prim, vE_isin, vE_meth, vE_lc, vEs_nil, vEs_cons, vA_one, vA_cons, vO_one, vO_cons, andK_t, andK_f, orK_t, orK_f, vT_nil, vT_cons, vI_seq, seqK_tup, seqK_rls, seqK_loc, seqL_ok, vI_range1, rg1_int, vI_range2, rg2_int,
  xS_asg, asgK_nm, asgT_nm, asgT_tp2, asgT_tp3, asgK_tp2, asgK_tp3, xS_par, parK_2, parK_3, xS_setS, xS_aug, augV_ok, augK_add, augK_sub, xS_expr, xS_ret, xS_retN, xS_ite, brS_t, brS_f, xS_wh, whB_t, whB_f, whK_n, whK_c, whK_b, whK_r, xS_fo, foT_some, foK_n, foK_c, foK_b, foK_r, xS_brk, xS_cont, xS_pass, xSs_nil, xSs_cons, sqK_n, sqK_r, sqK_b, sqK_c,
  b_add, b_sub, b_mul, b_mulL, b_mulR, b_fdiv, b_mod, b_pow, b_addT, b_addL, addL_ok, b_repT, k_lt, k_le, k_gt, k_ge, k_eq, k_ne, k_isN, k_notN, q_int, q_bl, q_str, ofB_some, Option.map_some, tr_bl, tr_int, tr_non, tr_tup, tr_loc, trK_ok, td_bl, td_int, td_tup, i_tup, i_rls, i_loc, idxL_ok, okV_some, at0, at1, at2, at3, at_m1, tupK_ok, lstK_ok, negK_int, p_abs, p_int, p_intB, p_lenT, p_lenR, p_lenL, lenL_ok, p_max, p_min, p_tupT, p_tupL, tupL_ok, p_lstT, p_lstL, lstL_ok, isD_ok, m_app, appL_ok, m_pop, popL_ok, m_rev, revL_ok, recv_ok, recvL_ok, set_loc, setL_ok, setI_ok, new_eq, Bool.not_true, Bool.not_false, if_true, eq_self, decide_true, decide_false,
  List.set_cons_zero, List.set_cons_succ, List.getElem?_cons_zero, List.getElem?_cons_succ, List.length_cons, List.length_nil, Option.some.injEq])
local macro_rules | `(tactic| walk_at "ev*") => `(tactic| simp (config := { maxSteps := 3000000 }) (disch := first | assumption | omega | exact ⟨by omega, by omega⟩ | exact ⟨⟨by omega, by omega⟩, ⟨by omega, by omega⟩⟩ | exact Nat.le_of_ble_eq_true rfl | decide) only [bnd_ok, bnd_bad, binJ_eq, binK_eq, notK_eq, cmpJ_eq, cmpK_eq, idxJ_eq, idxK_eq, calJ_eq, clkJ_eq, clkK_eq, priJ_eq, isiJ_eq, metJ_eq, metI_t, metK_eq, lcJ_eq, lcK_eq, conJ_eq, conK_eq, andJ_eq, orJ_eq, rg2J_eq, nxtK_eq, setI1_eq, setI2_eq, setI3_eq, retK_eq,  vE_var, varK_ok, vE_int, vE_bl, vE_non, vE_str, vE_tup, vE_lst, vE_bin, vE_neg, vE_not, vE_and, vE_or, vE_cmp, vE_ite, brE_t, brE_f, vE_idx, vE_slc, vE_call, vE_callk, vE_prim, vE_isin, vE_meth, vE_lc, vEs_nil, vEs_cons, vA_one, vA_cons, vO_one, vO_cons, andK_t, andK_f, orK_t, orK_f, vT_nil, vT_cons, vI_seq, seqK_tup, seqK_rls, seqK_loc, seqL_ok, vI_range1, rg1_int, vI_range2, rg2_int,
  xS_asg, asgK_nm, asgT_nm, asgT_tp2, asgT_tp3, asgK_tp2, asgK_tp3, xS_par, parK_2, parK_3, xS_setS, xS_aug, augV_ok, augK_add, augK_sub, xS_expr, xS_ret, xS_retN, xS_ite, brS_t, brS_f, xS_wh, whB_t, whB_f, whK_n, whK_c, whK_b, whK_r, xS_fo, foT_some, foK_n, foK_c, foK_b, foK_r, xS_brk, xS_cont, xS_pass, xSs_nil, xSs_cons, sqK_n, sqK_r, sqK_b, sqK_c,
  b_add, b_sub, b_mul, b_mulL, b_mulR, b_fdiv, b_mod, b_pow, b_addT, b_addL, addL_ok, b_repT, k_lt, k_le, k_gt, k_ge, k_eq, k_ne, k_isN, k_notN, q_int, q_bl, q_str, ofB_some, Option.map_some, tr_bl, tr_int, tr_non, tr_tup, tr_loc, trK_ok, td_bl, td_int, td_tup, i_tup, i_rls, i_loc, idxL_ok, okV_some, at0, at1, at2, at3, at_m1, tupK_ok, lstK_ok, negK_int, p_abs, p_int, p_intB, p_lenT, p_lenR, p_lenL, lenL_ok, p_max, p_min, p_tupT, p_tupL, tupL_ok, p_lstT, p_lstL, lstL_ok, isD_ok, m_app, appL_ok, m_pop, popL_ok, m_rev, revL_ok, recv_ok, recvL_ok, set_loc, setL_ok, setI_ok, new_eq, Bool.not_true, Bool.not_false, if_true, eq_self, decide_true, decide_false,
  List.set_cons_zero, List.set_cons_succ, List.getElem?_cons_zero, List.getElem?_cons_succ, List.length_cons, List.length_nil, Option.some.injEq, *])
local macro_rules | `(tactic| walk_at "evs") => `(tactic| simp (config := { maxSteps := 3000000 }) (disch := first | assumption | omega | exact ⟨by omega, by omega⟩ | exact ⟨⟨by omega, by omega⟩, ⟨by omega, by omega⟩⟩ | exact Nat.le_of_ble_eq_true rfl | decide) only [bnd_ok, bnd_bad, binJ_eq, binK_eq, notK_eq, cmpJ_eq, cmpK_eq, idxJ_eq, idxK_eq, calJ_eq, clkJ_eq, clkK_eq, priJ_eq, isiJ_eq, metJ_eq, metI_t, metK_eq, lcJ_eq, lcK_eq, conJ_eq, conK_eq, andJ_eq, orJ_eq, rg2J_eq, nxtK_eq, setI1_eq, setI2_eq, setI3_eq, retK_eq,  vE_var, varK_ok, vE_int, vE_bl, vE_non, vE_str, vE_tup, vE_lst, vE_bin, vE_neg, vE_not, vE_and, vE_or, vE_cmp, vE_ite, brE_t, brE_f, vE_idx, vE_slc, vE_call, vE_callk, vE_prim, vE_isin, vE_meth, vE_lc, vEs_nil, vEs_cons, vA_one, vA_cons, vO_one, vO_cons, andK_t, andK_f, orK_t, orK_f, vT_nil, vT_cons, vI_seq, seqK_tup, seqK_rls, seqK_loc, seqL_ok, vI_range1, rg1_int, vI_range2, rg2_int,
  xS_asg, asgK_nm, asgT_nm, asgT_tp2, asgT_tp3, asgK_tp2, asgK_tp3, xS_par, parK_2, parK_3, xS_setS, xS_aug, augV_ok, augK_add, augK_sub, xS_expr, xS_ret, xS_retN, xS_ite, brS_t, brS_f, xS_wh, whB_t, whB_f, whK_n, whK_c, whK_b, whK_r, xS_fo, foT_some, foK_n, foK_c, foK_b, foK_r, xS_brk, xS_cont, xS_pass, xSs_nil, xSs_cons, sqK_n, sqK_r, sqK_b, sqK_c,
  b_add, b_sub, b_mul, b_mulL, b_mulR, b_fdiv, b_mod, b_pow, b_addT, b_addL, addL_ok, b_repT, k_lt, k_le, k_gt, k_ge, k_eq, k_ne, k_isN, k_notN, q_int, q_bl, q_str, ofB_some, Option.map_some, tr_bl, tr_int, tr_non, tr_tup, tr_loc, trK_ok, td_bl, td_int, td_tup, i_tup, i_rls, i_loc, idxL_ok, okV_some, at0, at1, at2, at3, at_m1, tupK_ok, lstK_ok, negK_int, p_abs, p_int, p_intB, p_lenT, p_lenR, p_lenL, lenL_ok, p_max, p_min, p_tupT, p_tupL, tupL_ok, p_lstT, p_lstL, lstL_ok, isD_ok, m_app, appL_ok, m_pop, popL_ok, m_rev, revL_ok, recv_ok, recvL_ok, set_loc, setL_ok, setI_ok, new_eq, Bool.not_true, Bool.not_false, if_true, eq_self, decide_true, decide_false,
  List.set_cons_zero, List.set_cons_succ, List.getElem?_cons_zero, List.getElem?_cons_succ, List.length_cons, List.length_nil, Option.some.injEq, List.cons_append, List.nil_append, List.append_assoc, Nat.reduceAdd, st_get, st_get0, st_set, st_set0, List.length_append, Nat.add_zero, Nat.zero_add, *])

/-! ### a list against the empty list -/
mutual
def noStr : D → Bool
  | .non => true
  | .bl _ => true
  | .int _ => true
  | .tup ds => noStrs ds
  | _ => false
def noStrs : List D → Bool
  | [] => true
  | d :: ds => noStr d && noStrs ds
end
mutual
theorem py_of : ∀ d : D, noStr d = true → ∃ x, pyD d = some x ∧ x.canLay0 = true ∧ x.depth ≤ depD d
  | .non, _ => ⟨.none, rfl, by simp [PyData.canLay0], by simp [PyData.depth]⟩
  | .bl b, _ => ⟨.bool b, rfl, by simp [PyData.canLay0], by simp [PyData.depth]⟩
  | .int i, _ => ⟨.int i, rfl, by simp [PyData.canLay0], by simp [PyData.depth]⟩
  | .str x, h => by cases h
  | .rls x, h => by cases h
  | .loc x, h => by cases h
  | .tup ds, h => by
    unfold noStr at h
    obtain ⟨xs, h1, h2, h3⟩ := pys_of ds h
    refine ⟨.tuple xs, ?_, ?_, ?_⟩
    · unfold pyD; rw [h1]; rfl
    · unfold PyData.canLay0; exact h2
    · unfold PyData.depth depD; omega
theorem pys_of : ∀ ds : List D, noStrs ds = true → ∃ xs, pyDs ds = some xs ∧ PyData.canLayAll0 xs = true ∧ PyData.depthAll xs ≤ depDs ds
  | [], _ => ⟨[], rfl, by simp [PyData.canLayAll0], by simp [PyData.depthAll]⟩
  | d :: ds, h => by
    unfold noStrs at h
    rw [Bool.and_eq_true] at h
    obtain ⟨x, a1, a2, a3⟩ := py_of d h.1
    obtain ⟨xs, h1, h2, h3⟩ := pys_of ds h.2
    refine ⟨x :: xs, ?_, ?_, ?_⟩
    · unfold pyDs; rw [a1, h1]
    · unfold PyData.canLayAll0; rw [a2, h2]; rfl
    · unfold PyData.depthAll depDs; omega
end
theorem pyDs_nil {ds : List D} {xs : List PyData} (h : pyDs ds = some xs) : xs.isEmpty = ds.isEmpty := by
  cases ds with
  | nil => cases h; rfl
  | cons d ds =>
    unfold pyDs at h
    split at h
    · cases h; rfl
    · cases h
theorem q_empty {S : Store} {l m : Nat} {ds : List D} (h1 : S[l]? = some (.lst ds)) (h2 : S[m]? = some (.lst [])) (hn : noStrs ds = true) (hd : depDs ds ≤ 60) : eqD (.loc l) (.loc m) S = some ds.isEmpty := by
  obtain ⟨xs, a1, a2, a3⟩ := pys_of ds hn
  unfold eqD
  have e1 : pyT (.loc l) S = some (.list xs) := by unfold pyT; simp only [h1, a1]; rfl
  have e2 : pyT (.loc m) S = some (.list []) := by unfold pyT; simp only [h2]; rfl
  rw [e1, e2]
  have e3 : SeqAt.shaped (.list xs) = true := by
    unfold SeqAt.shaped
    rw [Bool.and_eq_true, decide_eq_true_eq]
    refine ⟨?_, ?_⟩
    · unfold PyData.canLay0; exact a2
    · unfold PyData.depth; omega
  have e4 : SeqAt.shaped (.list []) = true := by decide
  show (if _ then _ else _) = _
  rw [if_pos ⟨e3, e4⟩]
  rw [← pyDs_nil a1]
  cases xs <;> rfl
theorem noStrs_app : ∀ (xs ys : List D), noStrs (xs ++ ys) = (noStrs xs && noStrs ys)
  | [], ys => rfl
  | x :: xs, ys => by rw [List.cons_append, noStrs, noStrs, noStrs_app xs ys, Bool.and_assoc]
theorem depDs_app : ∀ (xs ys : List D), depDs (xs ++ ys) = max (depDs xs) (depDs ys)
  | [], ys => by rw [List.nil_append, depDs]; omega
  | x :: xs, ys => by rw [List.cons_append, depDs, depDs, depDs_app xs ys]; omega
/-! ### loops that keep a law -/
theorem fo_inv (F : Fns) (t : Tg) (b : Ss) (w : Walk) (Inv : Env → Store → Prop) (hw : ∀ e s, Inv e s → w.here s) : ∀ (items : List D),
    (∀ d ∈ items, ∀ e s, Inv e s → ∃ e1 e2 s2, asgT t d s e = some e1 ∧ exSs F b e1 s = .ok (.next, e2) s2 ∧ Inv e2 s2) →
    ∀ e s, Inv e s → ∃ e2 s2, foS F t b w items e s = .ok (.next, e2) s2 ∧ Inv e2 s2
  | [], _, e, s, h => ⟨e, s, fo_nil _ _ _ _ _ _ (hw e s h), h⟩
  | d :: ds, step, e, s, h => by
    obtain ⟨e1, e2, s2, a1, a2, a3⟩ := step d (List.mem_cons_self ..) e s h
    obtain ⟨e3, s3, b1, b2⟩ := fo_inv F t b w Inv hw ds (fun x hx => step x (List.mem_cons_of_mem _ hx)) e2 s2 a3
    refine ⟨e3, s3, ?_, b2⟩
    rw [fo_cons _ _ _ _ _ _ _ _ (hw e s h), a1, foT_some, a2, bnd_ok, foK_n, b1]
/-! ### cuts -/
theorem cut_tail (d : D) (ds : List D) : cutD (d :: ds) (some 1) none = ds := by
  unfold cutD HT.sIx
  simp
theorem len_map_rng (hi : Int) : (rngK 0 hi).length = hi.toNat := by rw [rng_len]; simp
theorem rng_mem {lo hi : Int} {d : D} (h : d ∈ rngK lo hi) : ∃ i : Int, d = .int i ∧ lo ≤ i ∧ i < hi := by
  unfold rngK at h
  obtain ⟨k, hk, rfl⟩ := List.mem_map.mp h
  rw [List.mem_range] at hk
  exact ⟨_, rfl, by omega, by omega⟩
theorem map_const_rng (n : Nat) (d : D) : (rngK 0 (n : Int)).map (fun _ => d) = List.replicate n d := by
  rw [List.map_const', len_map_rng]
  simp
theorem rep_flat (n : Nat) (d : D) : (List.replicate n [d]).flatten = List.replicate n d := by
  induction n with
  | zero => rfl
  | succ n ih => rw [List.replicate_succ, List.flatten_cons, ih, List.replicate_succ]; rfl
theorem slc_tail (F : Fns) (env : Env) (a : E) (S S1 : Store) (d : D) (ds : List D) (h : evE F a env S = .ok (.tup (d :: ds)) S1) : evE F (.slc a (.cint 1) .absent) env S = .ok (.tup ds) S1 := by
  rw [vE_slc, h, bnd_ok]
  show ((optI (evE F (.cint 1) env S1)).bnd _) = _
  rw [vE_int]
  show slcD (.tup (d :: ds)) (some 1) none S1 = _
  show Res.ok (D.tup (cutD (d :: ds) (some 1) none)) S1 = _
  rw [cut_tail]
/-! ### draws in expressions -/
theorem draw_is {P : Prg} {f : Nat} (hd : DrawOk P f) (N : Nat) (hN : 1 ≤ N) (l : Nat) (m : Int) (Sb G : Store) (hB : Bag Sb l) (h0 : 0 < m) (h1 : m < 2 ^ 60) :
    ∃ r Sb', callN P N f [.loc l, .int m] (Sb ++ G) = .ok (.int r) (Sb' ++ G) ∧ 0 ≤ r ∧ r < m ∧ Bag Sb' l ∧ Sb'.length = Sb.length := by
  obtain ⟨n, rfl⟩ : ∃ n, N = n + 1 := ⟨N - 1, by omega⟩
  exact hd n Sb G l m hB h0 (Nat.lt_of_lt_of_le (by omega : m.natAbs < 2 ^ 60) (pow_le_pow (by decide)))
theorem pick_is {P : Prg} {f : Nat} (hd : PickOk P f) (N : Nat) (hN : 2 ≤ N) (l : Nat) (ds : List D) (Sb G : Store) (hB : Bag Sb l) (h0 : ds ≠ []) (h1 : ds.length ≤ 1000) :
    ∃ d Sb' G', callN P N f [.loc l, .loc (Sb ++ G).length] (Sb ++ G ++ [.lst ds]) = .ok d (Sb' ++ G') ∧ d ∈ ds ∧ Bag Sb' l ∧ Sb'.length = Sb.length := by
  obtain ⟨n, rfl⟩ : ∃ n, N = n + 2 := ⟨N - 2, by omega⟩
  obtain ⟨d, Sb', a, b, c⟩ := hd n Sb (G ++ [.lst ds]) l G.length ds hB (by rw [List.getElem?_append_right (Nat.le_refl _), Nat.sub_self]; rfl) h0 (by omega)
  refine ⟨d, Sb', G ++ [.lst ds], ?_, b, c⟩
  rw [List.length_append, List.append_assoc]
  exact a
theorem picki_is {P : Prg} {f : Nat} (hd : PickOk P f) (N : Nat) (hN : 2 ≤ N) (l : Nat) (ms : List Int) (ds : List D) (hms : ms.map .int = ds) (Sb G : Store) (hB : Bag Sb l) (h0 : ms ≠ []) (h1 : ms.length ≤ 1000) :
    ∃ m Sb' G', callN P N f [.loc l, .loc (Sb ++ G).length] (Sb ++ G ++ [.lst ds]) = .ok (.int m) (Sb' ++ G') ∧ m ∈ ms ∧ Bag Sb' l ∧ Sb'.length = Sb.length := by
  subst hms
  obtain ⟨d, Sb', G', a, b, c⟩ := pick_is hd N hN l (ms.map .int) Sb G hB (fun z => h0 (List.map_eq_nil_iff.mp z)) (by rw [List.length_map]; exact h1)
  obtain ⟨m, hm, rfl⟩ := List.mem_map.mp b
  exact ⟨m, Sb', G', a, hm, c⟩
/-- draw(bag, pick(bag, [..])) -/
theorem dp_is {P : Prg} {f g : Nat} (hd : DrawOk P f) (hp : PickOk P g) (N : Nat) (hN : 2 ≤ N) (l : Nat) (ms : List Int) (ds : List D) (hms : ms.map .int = ds) (Sb G : Store) (hB : Bag Sb l) (h0 : ms ≠ []) (h1 : ms.length ≤ 1000)
    (hm : ∀ m ∈ ms, 0 < m ∧ m < 2 ^ 60) :
    ∃ r m Sb1 Sb2 G', callN P N g [.loc l, .loc (Sb ++ G).length] (Sb ++ G ++ [.lst ds]) = .ok (.int m) (Sb1 ++ G') ∧ callN P N f [.loc l, .int m] (Sb1 ++ G') = .ok (.int r) (Sb2 ++ G') ∧ 0 ≤ r ∧ m ∈ ms ∧ r < m ∧ Bag Sb2 l ∧ Sb2.length = Sb.length := by
  obtain ⟨m, Sb1, G1, a, b, c, d⟩ := picki_is hp N hN l ms ds hms Sb G hB h0 h1
  obtain ⟨m0, m1⟩ := hm m b
  obtain ⟨r, Sb2, a2, b2, c2, d2, e2⟩ := draw_is hd N (by omega) l m Sb1 G1 c m0 m1
  exact ⟨r, m, Sb1, Sb2, G1, a, a2, b2, b, c2, d2, by omega⟩
theorem seq_ex {F : Fns} {s : St} {ss : Ss} {env : Env} {S : Store} {Q : Res (Flow × Env) → Prop} (env' : Env) (S' : Store) (h : exS F s env S = .ok (.next, env') S') (q : Q (exSs F ss env' S')) : Q (exSs F (.cons s ss) env S) := by
  rw [xSs_cons, h, bnd_ok, sqK_n]
  exact q
/-- a list comprehension of numbers whose turns may change the store -/
theorem lc_eff (F : Fns) (env : Env) (t : Tg) (own : List Nat) (elt : E) (w : Walk) (Inv : Store → Prop) (R : Int → Prop) (hw : ∀ s, Inv s → w.here s) : ∀ (items acc : List D) (S : Store), Inv S → acc.length + items.length < LINE →
    (∀ d ∈ items, ∀ S, Inv S → ∃ env1 x S', asgT t d S (wipeE env own) = some env1 ∧ evE F elt env1 S = .ok (.int x) S' ∧ R x ∧ Inv S') →
    ∃ (xs : List Int) (S' : Store), lcS F env t own .nil elt w items acc S = .ok (acc ++ xs.map .int) S' ∧ xs.length = items.length ∧ (∀ x ∈ xs, R x) ∧ Inv S'
  | [], acc, S, hI, _, _ => ⟨[], S, by rw [lc_nil _ _ _ _ _ _ _ _ _ (hw S hI), List.map_nil, List.append_nil], rfl, (by simp), hI⟩
  | d :: ds, acc, S, hI, hl, h => by
    obtain ⟨env1, x, S1, e1, e2, r1, i1⟩ := h d (List.mem_cons_self ..) S hI
    rw [List.length_cons] at hl
    obtain ⟨xs, S2, a, b, c, e⟩ := lc_eff F env t own elt w Inv R hw ds (acc ++ [.int x]) S1 i1 (by rw [List.length_append]; simp only [List.length_cons, List.length_nil]; omega) (fun z hz => h z (List.mem_cons_of_mem _ hz))
    refine ⟨x :: xs, S2, ?_, by rw [List.length_cons, List.length_cons, b], ?_, e⟩
    · rw [lc_cons _ _ _ _ _ _ _ _ _ _ _ (hw S hI), e1]
      unfold lcT
      dsimp only
      rw [vT_nil, bnd_ok]
      unfold lcB
      rw [if_pos rfl, e2, bnd_ok, if_pos (by omega), a, List.map_cons, List.append_assoc]
      rfl
    · intro z hz
      rcases List.mem_cons.mp hz with rfl | hz
      · exact r1
      · exact c z hz
end
end SX
namespace LW
open PySem PySem.Spec PyProof.Rows L2 SX
def topS (i : Nat) : Stmt := PySem.Challenge.pw_surecrossing_k40_lengths.main.body.getD i (.Pass ⟨0, 0, 0, 0⟩)
/-! ### the bodies -/
def b_divisor : Ss := .cons (.par [0, 1] (.cons (.prim .abs (.cons (.var 0) .nil)) (.cons (.prim .abs (.cons (.var 1) .nil)) .nil))) (.cons (.wh (.var 1) (.cons (.par [0, 1] (.cons (.var 1) (.cons (.bin .mod (.var 0) (.var 1)) .nil))) .nil)) (.cons (.ret (.var 0)) .nil))
def b_lowest : Ss := .cons (.asg (.nm 2) (.call 0 (.cons (.var 0) (.cons (.var 1) .nil)))) (.cons (.ret (.tup (.cons (.bin .fdiv (.var 0) (.var 2)) (.cons (.bin .fdiv (.var 1) (.var 2)) .nil)))) .nil)
def b_plus : Ss := .cons (.ret (.call 1 (.cons (.bin .add (.bin .mul (.idx (.var 0) (.cint 0)) (.idx (.var 1) (.cint 1))) (.bin .mul (.idx (.var 1) (.cint 0)) (.idx (.var 0) (.cint 1)))) (.cons (.bin .mul (.idx (.var 0) (.cint 1)) (.idx (.var 1) (.cint 1))) .nil)))) .nil
def b_product : Ss := .cons (.ret (.call 1 (.cons (.bin .mul (.idx (.var 0) (.cint 0)) (.idx (.var 1) (.cint 0))) (.cons (.bin .mul (.idx (.var 0) (.cint 1)) (.idx (.var 1) (.cint 1))) .nil)))) .nil
def b_is_less : Ss := .cons (.ret (.cmp .lt (.bin .mul (.idx (.var 0) (.cint 0)) (.idx (.var 1) (.cint 1))) (.bin .mul (.idx (.var 1) (.cint 0)) (.idx (.var 0) (.cint 1))))) .nil
def b_greater_of : Ss := .cons (.ret (.ite (.call 4 (.cons (.var 0) (.cons (.var 1) .nil))) (.var 1) (.var 0))) .nil
def b_gap_size : Ss := .cons (.ret (.call 1 (.cons (.prim .abs (.cons (.bin .sub (.bin .mul (.idx (.var 0) (.cint 0)) (.idx (.var 1) (.cint 1))) (.bin .mul (.idx (.var 1) (.cint 0)) (.idx (.var 0) (.cint 1)))) .nil)) (.cons (.bin .mul (.idx (.var 0) (.cint 1)) (.idx (.var 1) (.cint 1))) .nil)))) .nil
def b_smoothed : Ss := .cons (.asg (.nm 3) (.tup (.cons (.var 2) (.cons (.cint 1) .nil)))) (.cons (.asg (.nm 1) (.call 2 (.cons (.call 3 (.cons (.tup (.cons (.cint 3) (.cons (.cint 4) .nil))) (.cons (.var 1) .nil))) (.cons (.call 3 (.cons (.tup (.cons (.cint 1) (.cons (.cint 4) .nil))) (.cons (.call 6 (.cons (.var 0) (.cons (.var 3) .nil))) .nil))) .nil)))) (.cons (.ret (.tup (.cons (.call 2 (.cons (.call 3 (.cons (.tup (.cons (.cint 7) (.cons (.cint 8) .nil))) (.cons (.var 0) .nil))) (.cons (.call 3 (.cons (.tup (.cons (.cint 1) (.cons (.cint 8) .nil))) (.cons (.var 3) .nil))) .nil))) (.cons (.var 1) .nil)))) .nil))
def b_first_pair : Ss := .cons (.ret (.tup (.cons (.tup (.cons (.var 0) (.cons (.cint 1) .nil))) (.cons (.call 1 (.cons (.var 0) (.cons (.cint 2) .nil))) .nil)))) .nil
def b_length_of : Ss := .cons (.ret (.call 2 (.cons (.var 0) (.cons (.call 5 (.cons (.tup (.cons (.var 2) (.cons (.cint 1) .nil))) (.cons (.call 3 (.cons (.tup (.cons (.cint 4) (.cons (.cint 1) .nil))) (.cons (.var 1) .nil))) .nil))) .nil)))) .nil
def b_lengths : Ss := .cons (.asg (.nm 1) (.lst (.cons (.call 8 (.cons (.idx (.var 0) (.cint 0)) .nil)) .nil))) (.cons (.fo (.nm 2) (.seq (.slc (.var 0) (.cint 1) (.absent))) (.cons (.asg (.tp (.cons (.nm 3) (.cons (.nm 4) .nil))) (.idx (.var 1) (.neg (.cint 1)))) (.cons (.expr (.meth .append (.var 1) (.cons (.call 7 (.cons (.var 3) (.cons (.var 4) (.cons (.var 2) .nil)))) .nil))) .nil))) (.cons (.ret (.prim .tuple (.cons (.var 1) .nil))) .nil))
def b_least_length : Ss := .cons (.asg (.tp (.cons (.nm 4) (.cons (.nm 5) .nil))) (.idx (.call 10 (.cons (.bin .mul (.tup (.cons (.var 0) .nil)) (.var 2)) .nil)) (.neg (.cint 1)))) (.cons (.ret (.call 9 (.cons (.var 4) (.cons (.var 5) (.cons (.var 3) .nil))))) .nil)
def b__law_bag : Ss := .cons (.asg (.nm 1) (.bin .add (.lc (.prim .abs (.cons (.prim .int (.cons (.var 3) .nil)) .nil)) (.nm 3) (.seq (.var 0)) .nil [3]) (.lst (.cons (.cint 7) .nil)))) (.cons (.asg (.nm 2) (.lst .nil)) (.cons (.ite (.cmp .eq (.bin .mod (.prim .int (.cons (.idx (.var 1) (.cint 0)) .nil)) (.cint 2)) (.cint 0)) (.cons (.asg (.nm 2) (.lc (.bin .fdiv (.var 3) (.cint 2)) (.nm 3) (.seq (.var 1)) (.cons (.cmp .ge (.var 3) (.bin .pow (.cint 10) (.cint 18))) .nil) [3])) (.cons (.expr (.meth .reverse (.var 2) .nil)) .nil)) .nil) (.cons (.ret (.lst (.cons (.cint 0) (.cons (.cint 0) (.cons (.var 2) (.cons (.lc (.bin .mod (.prim .int (.cons (.var 3) .nil)) (.cint 2147483647)) (.nm 3) (.seq (.var 1)) .nil [3]) .nil)))))) .nil)))
def b__law_draw : Ss := .cons (.setS (.var 0) (.cint 1) (.bin .add (.idx (.var 0) (.cint 1)) (.cint 1))) (.cons (.ite (.and (.cons (.cmp .eq (.idx (.var 0) (.cint 0)) (.cint 0)) (.cons (.cmp .gt (.prim .len (.cons (.idx (.var 0) (.cint 2)) .nil)) (.cint 0)) .nil))) (.cons (.setS (.var 0) (.cint 0) (.meth .pop (.idx (.var 0) (.cint 2)) .nil)) .nil) .nil) (.cons (.ite (.cmp .gt (.idx (.var 0) (.cint 0)) (.cint 0)) (.cons (.asg (.nm 2) (.bin .mod (.prim .int (.cons (.idx (.var 0) (.cint 0)) .nil)) (.var 1))) (.cons (.setS (.var 0) (.cint 0) (.bin .fdiv (.idx (.var 0) (.cint 0)) (.var 1))) (.cons (.ret (.var 2)) .nil))) .nil) (.cons (.asg (.nm 3) (.idx (.idx (.var 0) (.cint 3)) (.bin .mod (.prim .int (.cons (.idx (.var 0) (.cint 1)) .nil)) (.prim .len (.cons (.idx (.var 0) (.cint 3)) .nil))))) (.cons (.asg (.nm 4) (.bin .mod (.prim .int (.cons (.bin .add (.bin .add (.bin .mul (.var 3) (.cint 48271)) (.bin .mul (.idx (.var 0) (.cint 1)) (.cint 69621))) (.cint 1)) .nil)) (.cint 2147483647))) (.cons (.ret (.bin .mod (.bin .fdiv (.bin .mod (.prim .int (.cons (.bin .add (.bin .add (.bin .mul (.var 4) (.var 4)) (.bin .mul (.var 4) (.cint 16807))) (.bin .mul (.idx (.var 0) (.cint 1)) (.cint 40014))) .nil)) (.cint 2147483629)) (.cint 32)) (.var 1))) .nil)))))
def b__law_pick : Ss := .cons (.ret (.idx (.var 1) (.call 13 (.cons (.var 0) (.cons (.prim .len (.cons (.var 1) .nil)) .nil))))) .nil
def b__law_same : Ss := .cons (.ite (.cmp .isN (.var 1) (.cnon)) (.cons (.ret (.cmp .isN (.var 0) (.cnon))) .nil) .nil) (.cons (.ite (.or (.cons (.isin .bool (.var 1)) (.cons (.isin .bool (.var 0)) .nil))) (.cons (.ret (.and (.cons (.isin .bool (.var 1)) (.cons (.isin .bool (.var 0)) (.cons (.cmp .eq (.var 0) (.var 1)) .nil))))) .nil) .nil) (.cons (.ite (.isin .int (.var 1)) (.cons (.ret (.and (.cons (.isin .int (.var 0)) (.cons (.cmp .eq (.var 0) (.var 1)) .nil)))) .nil) .nil) (.cons (.ite (.isin .str (.var 1)) (.cons (.ret (.and (.cons (.isin .str (.var 0)) (.cons (.cmp .eq (.var 0) (.var 1)) .nil)))) .nil) .nil) (.cons (.ite (.or (.cons (.not (.isin .tuple (.var 1))) (.cons (.not (.isin .tuple (.var 0))) (.cons (.cmp .ne (.prim .len (.cons (.var 0) .nil)) (.prim .len (.cons (.var 1) .nil))) .nil)))) (.cons (.ret (.cbl false)) .nil) .nil) (.cons (.fo (.nm 2) (.range1 (.prim .len (.cons (.var 1) .nil))) (.cons (.ite (.not (.call 15 (.cons (.idx (.var 0) (.var 2)) (.cons (.idx (.var 1) (.var 2)) .nil)))) (.cons (.ret (.cbl false)) .nil) .nil) .nil)) (.cons (.ret (.cbl true)) .nil))))))
def b__law_gcd : Ss := .cons (.par [0, 1] (.cons (.prim .abs (.cons (.var 0) .nil)) (.cons (.prim .abs (.cons (.var 1) .nil)) .nil))) (.cons (.fo (.nm 2) (.range1 (.cint 100000)) (.cons (.ite (.cmp .eq (.var 1) (.cint 0)) (.cons (.brk) .nil) .nil) (.cons (.par [0, 1] (.cons (.var 1) (.cons (.bin .mod (.prim .int (.cons (.var 0) .nil)) (.var 1)) .nil))) .nil))) (.cons (.ret (.var 0)) .nil))
def b__law_fr : Ss := .cons (.asg (.nm 2) (.call 16 (.cons (.var 0) (.cons (.var 1) .nil)))) (.cons (.ret (.tup (.cons (.bin .fdiv (.var 0) (.var 2)) (.cons (.bin .fdiv (.var 1) (.var 2)) .nil)))) .nil)
def b__law_plus : Ss := .cons (.ret (.call 17 (.cons (.bin .add (.bin .mul (.idx (.var 0) (.cint 0)) (.idx (.var 1) (.cint 1))) (.bin .mul (.idx (.var 1) (.cint 0)) (.idx (.var 0) (.cint 1)))) (.cons (.bin .mul (.idx (.var 0) (.cint 1)) (.idx (.var 1) (.cint 1))) .nil)))) .nil
def b__law_times : Ss := .cons (.ret (.call 17 (.cons (.bin .mul (.idx (.var 0) (.cint 0)) (.idx (.var 1) (.cint 0))) (.cons (.bin .mul (.idx (.var 0) (.cint 1)) (.idx (.var 1) (.cint 1))) .nil)))) .nil
def b__law_more : Ss := .cons (.ret (.ite (.cmp .lt (.bin .mul (.idx (.var 0) (.cint 0)) (.idx (.var 1) (.cint 1))) (.bin .mul (.idx (.var 1) (.cint 0)) (.idx (.var 0) (.cint 1)))) (.var 1) (.var 0))) .nil
def b__law_lengths : Ss := .cons (.asg (.nm 1) (.lst .nil)) (.cons (.fo (.nm 2) (.seq (.var 0)) (.cons (.ite (.cmp .eq (.var 1) (.lst .nil)) (.cons (.expr (.meth .append (.var 1) (.cons (.tup (.cons (.tup (.cons (.var 2) (.cons (.cint 1) .nil))) (.cons (.call 17 (.cons (.var 2) (.cons (.cint 2) .nil))) .nil))) .nil))) .nil) (.cons (.asg (.tp (.cons (.nm 3) (.cons (.nm 4) .nil))) (.idx (.var 1) (.neg (.cint 1)))) (.cons (.asg (.nm 5) (.call 17 (.cons (.prim .abs (.cons (.bin .sub (.idx (.var 3) (.cint 0)) (.bin .mul (.var 2) (.idx (.var 3) (.cint 1)))) .nil)) (.cons (.idx (.var 3) (.cint 1)) .nil)))) (.cons (.asg (.nm 4) (.call 18 (.cons (.call 19 (.cons (.tup (.cons (.cint 3) (.cons (.cint 4) .nil))) (.cons (.var 4) .nil))) (.cons (.call 19 (.cons (.tup (.cons (.cint 1) (.cons (.cint 4) .nil))) (.cons (.var 5) .nil))) .nil)))) (.cons (.asg (.nm 3) (.call 18 (.cons (.call 19 (.cons (.tup (.cons (.cint 7) (.cons (.cint 8) .nil))) (.cons (.var 3) .nil))) (.cons (.call 17 (.cons (.var 2) (.cons (.cint 8) .nil))) .nil)))) (.cons (.expr (.meth .append (.var 1) (.cons (.tup (.cons (.var 3) (.cons (.var 4) .nil))) .nil))) .nil)))))) .nil)) (.cons (.ret (.prim .tuple (.cons (.var 1) .nil))) .nil))
def b__law_timer : Ss := .cons (.ret (.call 18 (.cons (.var 0) (.cons (.call 20 (.cons (.tup (.cons (.var 2) (.cons (.cint 1) .nil))) (.cons (.call 19 (.cons (.tup (.cons (.cint 4) (.cons (.cint 1) .nil))) (.cons (.var 1) .nil))) .nil))) .nil)))) .nil
def b__law_samples : Ss := .cons (.asg (.nm 1) (.bin .add (.cint 1) (.call 13 (.cons (.var 0) (.cons (.call 14 (.cons (.var 0) (.cons (.lst (.cons (.cint 5) (.cons (.cint 40) (.cons (.cint 10000) .nil)))) .nil))) .nil))))) (.cons (.asg (.nm 2) (.prim .min (.cons (.cint 10000) (.cons (.bin .add (.var 1) (.call 13 (.cons (.var 0) (.cons (.call 14 (.cons (.var 0) (.cons (.lst (.cons (.cint 3) (.cons (.cint 30) (.cons (.cint 10000) .nil)))) .nil))) .nil)))) .nil)))) (.cons (.asg (.nm 3) (.call 14 (.cons (.var 0) (.cons (.lst (.cons (.cint 1) (.cons (.cint 2) (.cons (.cint 3) (.cons (.cint 60) (.cons (.bin .add (.cint 1) (.call 13 (.cons (.var 0) (.cons (.cint 60) .nil)))) (.cons (.bin .add (.cint 1) (.call 13 (.cons (.var 0) (.cons (.cint 20) .nil)))) .nil))))))) .nil)))) (.cons (.asg (.nm 4) (.call 13 (.cons (.var 0) (.cons (.cint 4) .nil)))) (.cons (.ite (.cmp .eq (.var 4) (.cint 0)) (.cons (.ret (.prim .tuple (.cons (.lc (.var 1) (.nm 5) (.range1 (.var 3)) .nil [5]) .nil))) .nil) .nil) (.cons (.ite (.cmp .eq (.var 4) (.cint 1)) (.cons (.ret (.prim .tuple (.cons (.lc (.var 2) (.nm 5) (.range1 (.var 3)) .nil [5]) .nil))) .nil) .nil) (.cons (.ite (.cmp .eq (.var 4) (.cint 2)) (.cons (.ret (.prim .tuple (.cons (.lc (.idx (.lst (.cons (.var 1) (.cons (.var 2) .nil))) (.bin .mod (.prim .int (.cons (.var 5) .nil)) (.cint 2))) (.nm 5) (.range1 (.var 3)) .nil [5]) .nil))) .nil) .nil) (.cons (.ret (.prim .tuple (.cons (.lc (.bin .add (.var 1) (.call 13 (.cons (.var 0) (.cons (.bin .add (.bin .sub (.var 2) (.var 1)) (.cint 1)) .nil)))) (.nm 5) (.range1 (.var 3)) .nil [5]) .nil))) .nil)))))))
def b_law : Ss := .cons (.asg (.nm 1) (.call 12 (.cons (.var 0) .nil))) (.cons (.fo (.nm 2) (.range1 (.cint 5)) (.cons (.asg (.nm 3) (.call 23 (.cons (.var 1) .nil))) (.cons (.asg (.nm 4) (.call 21 (.cons (.var 3) .nil))) (.cons (.ite (.not (.call 15 (.cons (.ite (.cmp .gt (.var 2) (.cint 0)) (.call 10 (.cons (.var 3) .nil)) (.callk 10 .nil (.cons (.var 3) .nil) [0])) (.cons (.var 4) .nil)))) (.cons (.ret (.cbl false)) .nil) .nil) (.cons (.asg (.nm 5) (.bin .add (.cint 1) (.call 13 (.cons (.var 1) (.cons (.call 14 (.cons (.var 1) (.cons (.lst (.cons (.cint 3) (.cons (.cint 30) (.cons (.cint 1000) .nil)))) .nil))) .nil))))) (.cons (.fo (.tp (.cons (.nm 6) (.cons (.nm 7) .nil))) (.seq (.lst (.cons (.idx (.var 4) (.cint 0)) (.cons (.idx (.var 4) (.neg (.cint 1))) (.cons (.tup (.cons (.idx (.idx (.var 4) (.neg (.cint 1))) (.cint 0)) (.cons (.tup (.cons (.cint 0) (.cons (.cint 1) .nil))) .nil))) (.cons (.tup (.cons (.call 17 (.cons (.call 13 (.cons (.var 1) (.cons (.cint 90) .nil))) (.cons (.bin .add (.cint 1) (.call 13 (.cons (.var 1) (.cons (.cint 9) .nil)))) .nil))) (.cons (.call 17 (.cons (.call 13 (.cons (.var 1) (.cons (.cint 90) .nil))) (.cons (.bin .add (.cint 1) (.call 13 (.cons (.var 1) (.cons (.cint 9) .nil)))) .nil))) .nil))) .nil)))))) (.cons (.asg (.nm 8) (.ite (.cmp .gt (.var 2) (.cint 0)) (.call 9 (.cons (.var 6) (.cons (.var 7) (.cons (.var 5) .nil)))) (.callk 9 .nil (.cons (.var 5) (.cons (.var 7) (.cons (.var 6) .nil))) [2, 1, 0]))) (.cons (.ite (.not (.call 15 (.cons (.var 8) (.cons (.call 22 (.cons (.var 6) (.cons (.var 7) (.cons (.var 5) .nil)))) .nil)))) (.cons (.ret (.cbl false)) .nil) .nil) .nil))) (.cons (.asg (.tp (.cons (.nm 9) (.cons (.nm 10) .nil))) (.tup (.cons (.idx (.var 3) (.cint 0)) (.cons (.prim .len (.cons (.var 3) .nil)) .nil)))) (.cons (.asg (.nm 11) (.prim .min (.cons (.cint 10000) (.cons (.bin .add (.var 9) (.call 13 (.cons (.var 1) (.cons (.call 14 (.cons (.var 1) (.cons (.lst (.cons (.cint 60) (.cons (.cint 10000) .nil))) .nil))) .nil)))) .nil)))) (.cons (.asg (.nm 12) (.idx (.call 21 (.cons (.prim .tuple (.cons (.lc (.var 9) (.nm 13) (.range1 (.var 10)) .nil [13]) .nil)) .nil)) (.neg (.cint 1)))) (.cons (.asg (.nm 8) (.ite (.cmp .gt (.var 2) (.cint 0)) (.call 11 (.cons (.var 9) (.cons (.var 11) (.cons (.var 10) (.cons (.var 5) .nil))))) (.callk 11 .nil (.cons (.var 5) (.cons (.var 10) (.cons (.var 11) (.cons (.var 9) .nil)))) [3, 2, 1, 0]))) (.cons (.ite (.not (.call 15 (.cons (.var 8) (.cons (.call 22 (.cons (.idx (.var 12) (.cint 0)) (.cons (.idx (.var 12) (.cint 1)) (.cons (.var 5) .nil)))) .nil)))) (.cons (.ret (.cbl false)) .nil) .nil) .nil))))))))))) (.cons (.ret (.cbl true)) .nil))
/-! ### the defs -/
def i_divisor : Nat := 0
def d_divisor : Def := ⟨PySem.Str.ofString "divisor", PySem.Str.ofString "divisor", topS 1, [PySem.Str.ofString "one", PySem.Str.ofString "other"], [PySem.Str.ofString "one", PySem.Str.ofString "other"], ⟨2, 2, b_divisor, true⟩⟩
def i_lowest : Nat := 1
def d_lowest : Def := ⟨PySem.Str.ofString "lowest", PySem.Str.ofString "lowest", topS 3, [PySem.Str.ofString "above", PySem.Str.ofString "below", PySem.Str.ofString "by"], [PySem.Str.ofString "above", PySem.Str.ofString "below"], ⟨2, 3, b_lowest, true⟩⟩
def i_plus : Nat := 2
def d_plus : Def := ⟨PySem.Str.ofString "plus", PySem.Str.ofString "plus", topS 4, [PySem.Str.ofString "one", PySem.Str.ofString "other"], [PySem.Str.ofString "one", PySem.Str.ofString "other"], ⟨2, 2, b_plus, true⟩⟩
def i_product : Nat := 3
def d_product : Def := ⟨PySem.Str.ofString "product", PySem.Str.ofString "product", topS 5, [PySem.Str.ofString "one", PySem.Str.ofString "other"], [PySem.Str.ofString "one", PySem.Str.ofString "other"], ⟨2, 2, b_product, true⟩⟩
def i_is_less : Nat := 4
def d_is_less : Def := ⟨PySem.Str.ofString "is_less", PySem.Str.ofString "is_less", topS 6, [PySem.Str.ofString "one", PySem.Str.ofString "other"], [PySem.Str.ofString "one", PySem.Str.ofString "other"], ⟨2, 2, b_is_less, true⟩⟩
def i_greater_of : Nat := 5
def d_greater_of : Def := ⟨PySem.Str.ofString "greater_of", PySem.Str.ofString "greater_of", topS 7, [PySem.Str.ofString "one", PySem.Str.ofString "other"], [PySem.Str.ofString "one", PySem.Str.ofString "other"], ⟨2, 2, b_greater_of, true⟩⟩
def i_gap_size : Nat := 6
def d_gap_size : Def := ⟨PySem.Str.ofString "gap_size", PySem.Str.ofString "gap_size", topS 8, [PySem.Str.ofString "one", PySem.Str.ofString "other"], [PySem.Str.ofString "one", PySem.Str.ofString "other"], ⟨2, 2, b_gap_size, true⟩⟩
def i_smoothed : Nat := 7
def d_smoothed : Def := ⟨PySem.Str.ofString "smoothed", PySem.Str.ofString "smoothed", topS 10, [PySem.Str.ofString "smooth", PySem.Str.ofString "spread", PySem.Str.ofString "sample", PySem.Str.ofString "told"], [PySem.Str.ofString "smooth", PySem.Str.ofString "spread", PySem.Str.ofString "sample"], ⟨3, 4, b_smoothed, true⟩⟩
def i_first_pair : Nat := 8
def d_first_pair : Def := ⟨PySem.Str.ofString "first_pair", PySem.Str.ofString "first_pair", topS 11, [PySem.Str.ofString "sample"], [PySem.Str.ofString "sample"], ⟨1, 1, b_first_pair, true⟩⟩
def i_length_of : Nat := 9
def d_length_of : Def := ⟨PySem.Str.ofString "length_of", PySem.Str.ofString "length_of", topS 12, [PySem.Str.ofString "smooth", PySem.Str.ofString "spread", PySem.Str.ofString "grain"], [PySem.Str.ofString "smooth", PySem.Str.ofString "spread", PySem.Str.ofString "grain"], ⟨3, 3, b_length_of, true⟩⟩
def i_lengths : Nat := 10
def d_lengths : Def := ⟨PySem.Str.ofString "lengths", PySem.Str.ofString "lengths", topS 13, [PySem.Str.ofString "samples", PySem.Str.ofString "found", PySem.Str.ofString "sample", PySem.Str.ofString "smooth", PySem.Str.ofString "spread"], [PySem.Str.ofString "samples"], ⟨1, 5, b_lengths, true⟩⟩
def i_least_length : Nat := 11
def d_least_length : Def := ⟨PySem.Str.ofString "least_length", PySem.Str.ofString "least_length", topS 14, [PySem.Str.ofString "low", PySem.Str.ofString "high", PySem.Str.ofString "many", PySem.Str.ofString "grain", PySem.Str.ofString "smooth", PySem.Str.ofString "spread"], [PySem.Str.ofString "low", PySem.Str.ofString "high", PySem.Str.ofString "many", PySem.Str.ofString "grain"], ⟨4, 6, b_least_length, true⟩⟩
def i__law_bag : Nat := 12
def d__law_bag : Def := ⟨PySem.Str.ofString "_law_bag", PySem.Str.ofString "_law_bag", topS 16, [PySem.Str.ofString "script", PySem.Str.ofString "numbers_told", PySem.Str.ofString "great", PySem.Str.ofString "cell"], [PySem.Str.ofString "script"], ⟨1, 4, b__law_bag, false⟩⟩
def i__law_draw : Nat := 13
def d__law_draw : Def := ⟨PySem.Str.ofString "_law_draw", PySem.Str.ofString "_law_draw", topS 17, [PySem.Str.ofString "bag", PySem.Str.ofString "many", PySem.Str.ofString "digit", PySem.Str.ofString "cell", PySem.Str.ofString "mixed"], [PySem.Str.ofString "bag", PySem.Str.ofString "many"], ⟨2, 5, b__law_draw, false⟩⟩
def i__law_pick : Nat := 14
def d__law_pick : Def := ⟨PySem.Str.ofString "_law_pick", PySem.Str.ofString "_law_pick", topS 18, [PySem.Str.ofString "bag", PySem.Str.ofString "some"], [PySem.Str.ofString "bag", PySem.Str.ofString "some"], ⟨2, 2, b__law_pick, false⟩⟩
def i__law_same : Nat := 15
def d__law_same : Def := ⟨PySem.Str.ofString "_law_same", PySem.Str.ofString "_law_same", topS 19, [PySem.Str.ofString "found", PySem.Str.ofString "due", PySem.Str.ofString "k"], [PySem.Str.ofString "found", PySem.Str.ofString "due"], ⟨2, 3, b__law_same, true⟩⟩
def i__law_gcd : Nat := 16
def d__law_gcd : Def := ⟨PySem.Str.ofString "_law_gcd", PySem.Str.ofString "_law_gcd", topS 20, [PySem.Str.ofString "a", PySem.Str.ofString "b", PySem.Str.ofString "turn"], [PySem.Str.ofString "a", PySem.Str.ofString "b"], ⟨2, 3, b__law_gcd, true⟩⟩
def i__law_fr : Nat := 17
def d__law_fr : Def := ⟨PySem.Str.ofString "_law_fr", PySem.Str.ofString "_law_fr", topS 21, [PySem.Str.ofString "a", PySem.Str.ofString "b", PySem.Str.ofString "by"], [PySem.Str.ofString "a", PySem.Str.ofString "b"], ⟨2, 3, b__law_fr, true⟩⟩
def i__law_plus : Nat := 18
def d__law_plus : Def := ⟨PySem.Str.ofString "_law_plus", PySem.Str.ofString "_law_plus", topS 22, [PySem.Str.ofString "a", PySem.Str.ofString "b"], [PySem.Str.ofString "a", PySem.Str.ofString "b"], ⟨2, 2, b__law_plus, true⟩⟩
def i__law_times : Nat := 19
def d__law_times : Def := ⟨PySem.Str.ofString "_law_times", PySem.Str.ofString "_law_times", topS 23, [PySem.Str.ofString "a", PySem.Str.ofString "b"], [PySem.Str.ofString "a", PySem.Str.ofString "b"], ⟨2, 2, b__law_times, true⟩⟩
def i__law_more : Nat := 20
def d__law_more : Def := ⟨PySem.Str.ofString "_law_more", PySem.Str.ofString "_law_more", topS 24, [PySem.Str.ofString "a", PySem.Str.ofString "b"], [PySem.Str.ofString "a", PySem.Str.ofString "b"], ⟨2, 2, b__law_more, true⟩⟩
def i__law_lengths : Nat := 21
def d__law_lengths : Def := ⟨PySem.Str.ofString "_law_lengths", PySem.Str.ofString "_law_lengths", topS 25, [PySem.Str.ofString "samples", PySem.Str.ofString "found", PySem.Str.ofString "r", PySem.Str.ofString "smooth", PySem.Str.ofString "spread", PySem.Str.ofString "off"], [PySem.Str.ofString "samples"], ⟨1, 6, b__law_lengths, true⟩⟩
def i__law_timer : Nat := 22
def d__law_timer : Def := ⟨PySem.Str.ofString "_law_timer", PySem.Str.ofString "_law_timer", topS 26, [PySem.Str.ofString "smooth", PySem.Str.ofString "spread", PySem.Str.ofString "grain"], [PySem.Str.ofString "smooth", PySem.Str.ofString "spread", PySem.Str.ofString "grain"], ⟨3, 3, b__law_timer, true⟩⟩
def i__law_samples : Nat := 23
def d__law_samples : Def := ⟨PySem.Str.ofString "_law_samples", PySem.Str.ofString "_law_samples", topS 27, [PySem.Str.ofString "bag", PySem.Str.ofString "low", PySem.Str.ofString "high", PySem.Str.ofString "many", PySem.Str.ofString "way", PySem.Str.ofString "k"], [PySem.Str.ofString "bag"], ⟨1, 6, b__law_samples, false⟩⟩
def i_law : Nat := 24
def d_law : Def := ⟨PySem.Str.ofString "law", PySem.Str.ofString "law", topS 28, [PySem.Str.ofString "script", PySem.Str.ofString "bag", PySem.Str.ofString "lap", PySem.Str.ofString "samples", PySem.Str.ofString "due", PySem.Str.ofString "grain", PySem.Str.ofString "smooth", PySem.Str.ofString "spread", PySem.Str.ofString "here", PySem.Str.ofString "low", PySem.Str.ofString "many", PySem.Str.ofString "high", PySem.Str.ofString "last", PySem.Str.ofString "k"], [PySem.Str.ofString "script"], ⟨1, 14, b_law, false⟩⟩
def T : List Def := [d_divisor, d_lowest, d_plus, d_product, d_is_less, d_greater_of, d_gap_size, d_smoothed, d_first_pair, d_length_of, d_lengths, d_least_length, d__law_bag, d__law_draw, d__law_pick, d__law_same, d__law_gcd, d__law_fr, d__law_plus, d__law_times, d__law_more, d__law_lengths, d__law_timer, d__law_samples, d_law]
def bl : List Str := [PySem.Str.ofString "abs", PySem.Str.ofString "tuple", PySem.Str.ofString "int", PySem.Str.ofString "len", PySem.Str.ofString "range", PySem.Str.ofString "isinstance", PySem.Str.ofString "str", PySem.Str.ofString "bool", PySem.Str.ofString "min"]
def kw : Kws := [(11, 0, [PySem.Str.ofString "grain", PySem.Str.ofString "many", PySem.Str.ofString "high", PySem.Str.ofString "low"], [3, 2, 1, 0]), (9, 0, [PySem.Str.ofString "grain", PySem.Str.ofString "spread", PySem.Str.ofString "smooth"], [2, 1, 0]), (10, 0, [PySem.Str.ofString "samples"], [0])]
noncomputable abbrev P : Prg := prg T
end LW
namespace LW
abbrev LV : Nat := 30
end LW
namespace LW
open PySem PySem.Spec PyProof.Rows L2 SX
theorem s_divisor : DefS T bl kw d_divisor := ⟨⟨rfl, rfl, rfl, by decide +kernel, rfl, by decide +kernel, by decide +kernel⟩, by decide +kernel⟩
theorem s_lowest : DefS T bl kw d_lowest := ⟨⟨rfl, rfl, rfl, by decide +kernel, rfl, by decide +kernel, by decide +kernel⟩, by decide +kernel⟩
theorem s_plus : DefS T bl kw d_plus := ⟨⟨rfl, rfl, rfl, by decide +kernel, rfl, by decide +kernel, by decide +kernel⟩, by decide +kernel⟩
theorem s_product : DefS T bl kw d_product := ⟨⟨rfl, rfl, rfl, by decide +kernel, rfl, by decide +kernel, by decide +kernel⟩, by decide +kernel⟩
theorem s_is_less : DefS T bl kw d_is_less := ⟨⟨rfl, rfl, rfl, by decide +kernel, rfl, by decide +kernel, by decide +kernel⟩, by decide +kernel⟩
theorem s_greater_of : DefS T bl kw d_greater_of := ⟨⟨rfl, rfl, rfl, by decide +kernel, rfl, by decide +kernel, by decide +kernel⟩, by decide +kernel⟩
theorem s_gap_size : DefS T bl kw d_gap_size := ⟨⟨rfl, rfl, rfl, by decide +kernel, rfl, by decide +kernel, by decide +kernel⟩, by decide +kernel⟩
theorem s_smoothed : DefS T bl kw d_smoothed := ⟨⟨rfl, rfl, rfl, by decide +kernel, rfl, by decide +kernel, by decide +kernel⟩, by decide +kernel⟩
theorem s_first_pair : DefS T bl kw d_first_pair := ⟨⟨rfl, rfl, rfl, by decide +kernel, rfl, by decide +kernel, by decide +kernel⟩, by decide +kernel⟩
theorem s_length_of : DefS T bl kw d_length_of := ⟨⟨rfl, rfl, rfl, by decide +kernel, rfl, by decide +kernel, by decide +kernel⟩, by decide +kernel⟩
theorem s_lengths : DefS T bl kw d_lengths := ⟨⟨rfl, rfl, rfl, by decide +kernel, rfl, by decide +kernel, by decide +kernel⟩, by decide +kernel⟩
theorem s_least_length : DefS T bl kw d_least_length := ⟨⟨rfl, rfl, rfl, by decide +kernel, rfl, by decide +kernel, by decide +kernel⟩, by decide +kernel⟩
theorem s__law_bag : DefS T bl kw d__law_bag := ⟨⟨rfl, rfl, rfl, by decide +kernel, rfl, by decide +kernel, by decide +kernel⟩, by decide +kernel⟩
theorem s__law_draw : DefS T bl kw d__law_draw := ⟨⟨rfl, rfl, rfl, by decide +kernel, rfl, by decide +kernel, by decide +kernel⟩, by decide +kernel⟩
theorem s__law_pick : DefS T bl kw d__law_pick := ⟨⟨rfl, rfl, rfl, by decide +kernel, rfl, by decide +kernel, by decide +kernel⟩, by decide +kernel⟩
theorem s__law_same : DefS T bl kw d__law_same := ⟨⟨rfl, rfl, rfl, by decide +kernel, rfl, by decide +kernel, by decide +kernel⟩, by decide +kernel⟩
theorem s__law_gcd : DefS T bl kw d__law_gcd := ⟨⟨rfl, rfl, rfl, by decide +kernel, rfl, by decide +kernel, by decide +kernel⟩, by decide +kernel⟩
theorem s__law_fr : DefS T bl kw d__law_fr := ⟨⟨rfl, rfl, rfl, by decide +kernel, rfl, by decide +kernel, by decide +kernel⟩, by decide +kernel⟩
theorem s__law_plus : DefS T bl kw d__law_plus := ⟨⟨rfl, rfl, rfl, by decide +kernel, rfl, by decide +kernel, by decide +kernel⟩, by decide +kernel⟩
theorem s__law_times : DefS T bl kw d__law_times := ⟨⟨rfl, rfl, rfl, by decide +kernel, rfl, by decide +kernel, by decide +kernel⟩, by decide +kernel⟩
theorem s__law_more : DefS T bl kw d__law_more := ⟨⟨rfl, rfl, rfl, by decide +kernel, rfl, by decide +kernel, by decide +kernel⟩, by decide +kernel⟩
theorem s__law_lengths : DefS T bl kw d__law_lengths := ⟨⟨rfl, rfl, rfl, by decide +kernel, rfl, by decide +kernel, by decide +kernel⟩, by decide +kernel⟩
theorem s__law_timer : DefS T bl kw d__law_timer := ⟨⟨rfl, rfl, rfl, by decide +kernel, rfl, by decide +kernel, by decide +kernel⟩, by decide +kernel⟩
theorem s__law_samples : DefS T bl kw d__law_samples := ⟨⟨rfl, rfl, rfl, by decide +kernel, rfl, by decide +kernel, by decide +kernel⟩, by decide +kernel⟩
theorem s_law : DefS T bl kw d_law := ⟨⟨rfl, rfl, rfl, by decide +kernel, rfl, by decide +kernel, by decide +kernel⟩, by decide +kernel⟩
theorem hs : ∀ (f : Nat) (d : Def), T[f]? = some d → DefS T bl kw d := fun f d h => all_mem (all_cons s_divisor (all_cons s_lowest (all_cons s_plus (all_cons s_product (all_cons s_is_less (all_cons s_greater_of (all_cons s_gap_size (all_cons s_smoothed (all_cons s_first_pair (all_cons s_length_of (all_cons s_lengths (all_cons s_least_length (all_cons s__law_bag (all_cons s__law_draw (all_cons s__law_pick (all_cons s__law_same (all_cons s__law_gcd (all_cons s__law_fr (all_cons s__law_plus (all_cons s__law_times (all_cons s__law_more (all_cons s__law_lengths (all_cons s__law_timer (all_cons s__law_samples (all_cons s_law (all_nil)))))))))))))))))))))))))) d (List.mem_of_getElem? h)
set_option maxHeartbeats 0 in
theorem all_mk {l : PySem.W.OpenLaw} {w : World} {K : PySem.W.Frag} {h : Heap} {mg : Str → Option Value} {fa : Addr} (X : K.In h) (G : h.Ns mainGlobals mg) (hfa : mg "law" = some (.ref fa))
    {f0 : Addr} {oc0 kV0 dc0 pm0 cd0 ct0 : Value} {od0 an0 : Option Addr} {sl0 : Array (Option Value)} (a0 : PySem.W.nsIn K mainGlobals "divisor" = some (some (.ref f0))) (l0 : K.lookup f0 = some ⟨oc0, od0, .func (PySem.W.fnOf "divisor" "divisor" (defArgs (topS 1)) (defBody (topS 1)) (defScope (topS 1)) .none kV0 dc0 pm0 an0 cd0 ct0), sl0⟩) (c0 : PySem.W.codeIn K cd0 "divisor" = true) (k0 : PySem.W.keepIn K (.ref f0) = true)
    {f1 : Addr} {oc1 kV1 dc1 pm1 cd1 ct1 : Value} {od1 an1 : Option Addr} {sl1 : Array (Option Value)} (a1 : PySem.W.nsIn K mainGlobals "lowest" = some (some (.ref f1))) (l1 : K.lookup f1 = some ⟨oc1, od1, .func (PySem.W.fnOf "lowest" "lowest" (defArgs (topS 3)) (defBody (topS 3)) (defScope (topS 3)) .none kV1 dc1 pm1 an1 cd1 ct1), sl1⟩) (c1 : PySem.W.codeIn K cd1 "lowest" = true) (k1 : PySem.W.keepIn K (.ref f1) = true)
    {f2 : Addr} {oc2 kV2 dc2 pm2 cd2 ct2 : Value} {od2 an2 : Option Addr} {sl2 : Array (Option Value)} (a2 : PySem.W.nsIn K mainGlobals "plus" = some (some (.ref f2))) (l2 : K.lookup f2 = some ⟨oc2, od2, .func (PySem.W.fnOf "plus" "plus" (defArgs (topS 4)) (defBody (topS 4)) (defScope (topS 4)) .none kV2 dc2 pm2 an2 cd2 ct2), sl2⟩) (c2 : PySem.W.codeIn K cd2 "plus" = true) (k2 : PySem.W.keepIn K (.ref f2) = true)
    {f3 : Addr} {oc3 kV3 dc3 pm3 cd3 ct3 : Value} {od3 an3 : Option Addr} {sl3 : Array (Option Value)} (a3 : PySem.W.nsIn K mainGlobals "product" = some (some (.ref f3))) (l3 : K.lookup f3 = some ⟨oc3, od3, .func (PySem.W.fnOf "product" "product" (defArgs (topS 5)) (defBody (topS 5)) (defScope (topS 5)) .none kV3 dc3 pm3 an3 cd3 ct3), sl3⟩) (c3 : PySem.W.codeIn K cd3 "product" = true) (k3 : PySem.W.keepIn K (.ref f3) = true)
    {f4 : Addr} {oc4 kV4 dc4 pm4 cd4 ct4 : Value} {od4 an4 : Option Addr} {sl4 : Array (Option Value)} (a4 : PySem.W.nsIn K mainGlobals "is_less" = some (some (.ref f4))) (l4 : K.lookup f4 = some ⟨oc4, od4, .func (PySem.W.fnOf "is_less" "is_less" (defArgs (topS 6)) (defBody (topS 6)) (defScope (topS 6)) .none kV4 dc4 pm4 an4 cd4 ct4), sl4⟩) (c4 : PySem.W.codeIn K cd4 "is_less" = true) (k4 : PySem.W.keepIn K (.ref f4) = true)
    {f5 : Addr} {oc5 kV5 dc5 pm5 cd5 ct5 : Value} {od5 an5 : Option Addr} {sl5 : Array (Option Value)} (a5 : PySem.W.nsIn K mainGlobals "greater_of" = some (some (.ref f5))) (l5 : K.lookup f5 = some ⟨oc5, od5, .func (PySem.W.fnOf "greater_of" "greater_of" (defArgs (topS 7)) (defBody (topS 7)) (defScope (topS 7)) .none kV5 dc5 pm5 an5 cd5 ct5), sl5⟩) (c5 : PySem.W.codeIn K cd5 "greater_of" = true) (k5 : PySem.W.keepIn K (.ref f5) = true)
    {f6 : Addr} {oc6 kV6 dc6 pm6 cd6 ct6 : Value} {od6 an6 : Option Addr} {sl6 : Array (Option Value)} (a6 : PySem.W.nsIn K mainGlobals "gap_size" = some (some (.ref f6))) (l6 : K.lookup f6 = some ⟨oc6, od6, .func (PySem.W.fnOf "gap_size" "gap_size" (defArgs (topS 8)) (defBody (topS 8)) (defScope (topS 8)) .none kV6 dc6 pm6 an6 cd6 ct6), sl6⟩) (c6 : PySem.W.codeIn K cd6 "gap_size" = true) (k6 : PySem.W.keepIn K (.ref f6) = true)
    {f7 : Addr} {oc7 kV7 dc7 pm7 cd7 ct7 : Value} {od7 an7 : Option Addr} {sl7 : Array (Option Value)} (a7 : PySem.W.nsIn K mainGlobals "smoothed" = some (some (.ref f7))) (l7 : K.lookup f7 = some ⟨oc7, od7, .func (PySem.W.fnOf "smoothed" "smoothed" (defArgs (topS 10)) (defBody (topS 10)) (defScope (topS 10)) .none kV7 dc7 pm7 an7 cd7 ct7), sl7⟩) (c7 : PySem.W.codeIn K cd7 "smoothed" = true) (k7 : PySem.W.keepIn K (.ref f7) = true)
    {f8 : Addr} {oc8 kV8 dc8 pm8 cd8 ct8 : Value} {od8 an8 : Option Addr} {sl8 : Array (Option Value)} (a8 : PySem.W.nsIn K mainGlobals "first_pair" = some (some (.ref f8))) (l8 : K.lookup f8 = some ⟨oc8, od8, .func (PySem.W.fnOf "first_pair" "first_pair" (defArgs (topS 11)) (defBody (topS 11)) (defScope (topS 11)) .none kV8 dc8 pm8 an8 cd8 ct8), sl8⟩) (c8 : PySem.W.codeIn K cd8 "first_pair" = true) (k8 : PySem.W.keepIn K (.ref f8) = true)
    {f9 : Addr} {oc9 kV9 dc9 pm9 cd9 ct9 : Value} {od9 an9 : Option Addr} {sl9 : Array (Option Value)} (a9 : PySem.W.nsIn K mainGlobals "length_of" = some (some (.ref f9))) (l9 : K.lookup f9 = some ⟨oc9, od9, .func (PySem.W.fnOf "length_of" "length_of" (defArgs (topS 12)) (defBody (topS 12)) (defScope (topS 12)) .none kV9 dc9 pm9 an9 cd9 ct9), sl9⟩) (c9 : PySem.W.codeIn K cd9 "length_of" = true) (k9 : PySem.W.keepIn K (.ref f9) = true)
    {f10 : Addr} {oc10 kV10 dc10 pm10 cd10 ct10 : Value} {od10 an10 : Option Addr} {sl10 : Array (Option Value)} (a10 : PySem.W.nsIn K mainGlobals "lengths" = some (some (.ref f10))) (l10 : K.lookup f10 = some ⟨oc10, od10, .func (PySem.W.fnOf "lengths" "lengths" (defArgs (topS 13)) (defBody (topS 13)) (defScope (topS 13)) .none kV10 dc10 pm10 an10 cd10 ct10), sl10⟩) (c10 : PySem.W.codeIn K cd10 "lengths" = true) (k10 : PySem.W.keepIn K (.ref f10) = true)
    {f11 : Addr} {oc11 kV11 dc11 pm11 cd11 ct11 : Value} {od11 an11 : Option Addr} {sl11 : Array (Option Value)} (a11 : PySem.W.nsIn K mainGlobals "least_length" = some (some (.ref f11))) (l11 : K.lookup f11 = some ⟨oc11, od11, .func (PySem.W.fnOf "least_length" "least_length" (defArgs (topS 14)) (defBody (topS 14)) (defScope (topS 14)) .none kV11 dc11 pm11 an11 cd11 ct11), sl11⟩) (c11 : PySem.W.codeIn K cd11 "least_length" = true) (k11 : PySem.W.keepIn K (.ref f11) = true)
    {f12 : Addr} {oc12 kV12 dc12 pm12 cd12 ct12 : Value} {od12 an12 : Option Addr} {sl12 : Array (Option Value)} (a12 : PySem.W.nsIn K mainGlobals "_law_bag" = some (some (.ref f12))) (l12 : K.lookup f12 = some ⟨oc12, od12, .func (PySem.W.fnOf "_law_bag" "_law_bag" (defArgs (topS 16)) (defBody (topS 16)) (defScope (topS 16)) .none kV12 dc12 pm12 an12 cd12 ct12), sl12⟩) (c12 : PySem.W.codeIn K cd12 "_law_bag" = true) (k12 : PySem.W.keepIn K (.ref f12) = true)
    {f13 : Addr} {oc13 kV13 dc13 pm13 cd13 ct13 : Value} {od13 an13 : Option Addr} {sl13 : Array (Option Value)} (a13 : PySem.W.nsIn K mainGlobals "_law_draw" = some (some (.ref f13))) (l13 : K.lookup f13 = some ⟨oc13, od13, .func (PySem.W.fnOf "_law_draw" "_law_draw" (defArgs (topS 17)) (defBody (topS 17)) (defScope (topS 17)) .none kV13 dc13 pm13 an13 cd13 ct13), sl13⟩) (c13 : PySem.W.codeIn K cd13 "_law_draw" = true) (k13 : PySem.W.keepIn K (.ref f13) = true)
    {f14 : Addr} {oc14 kV14 dc14 pm14 cd14 ct14 : Value} {od14 an14 : Option Addr} {sl14 : Array (Option Value)} (a14 : PySem.W.nsIn K mainGlobals "_law_pick" = some (some (.ref f14))) (l14 : K.lookup f14 = some ⟨oc14, od14, .func (PySem.W.fnOf "_law_pick" "_law_pick" (defArgs (topS 18)) (defBody (topS 18)) (defScope (topS 18)) .none kV14 dc14 pm14 an14 cd14 ct14), sl14⟩) (c14 : PySem.W.codeIn K cd14 "_law_pick" = true) (k14 : PySem.W.keepIn K (.ref f14) = true)
    {f15 : Addr} {oc15 kV15 dc15 pm15 cd15 ct15 : Value} {od15 an15 : Option Addr} {sl15 : Array (Option Value)} (a15 : PySem.W.nsIn K mainGlobals "_law_same" = some (some (.ref f15))) (l15 : K.lookup f15 = some ⟨oc15, od15, .func (PySem.W.fnOf "_law_same" "_law_same" (defArgs (topS 19)) (defBody (topS 19)) (defScope (topS 19)) .none kV15 dc15 pm15 an15 cd15 ct15), sl15⟩) (c15 : PySem.W.codeIn K cd15 "_law_same" = true) (k15 : PySem.W.keepIn K (.ref f15) = true)
    {f16 : Addr} {oc16 kV16 dc16 pm16 cd16 ct16 : Value} {od16 an16 : Option Addr} {sl16 : Array (Option Value)} (a16 : PySem.W.nsIn K mainGlobals "_law_gcd" = some (some (.ref f16))) (l16 : K.lookup f16 = some ⟨oc16, od16, .func (PySem.W.fnOf "_law_gcd" "_law_gcd" (defArgs (topS 20)) (defBody (topS 20)) (defScope (topS 20)) .none kV16 dc16 pm16 an16 cd16 ct16), sl16⟩) (c16 : PySem.W.codeIn K cd16 "_law_gcd" = true) (k16 : PySem.W.keepIn K (.ref f16) = true)
    {f17 : Addr} {oc17 kV17 dc17 pm17 cd17 ct17 : Value} {od17 an17 : Option Addr} {sl17 : Array (Option Value)} (a17 : PySem.W.nsIn K mainGlobals "_law_fr" = some (some (.ref f17))) (l17 : K.lookup f17 = some ⟨oc17, od17, .func (PySem.W.fnOf "_law_fr" "_law_fr" (defArgs (topS 21)) (defBody (topS 21)) (defScope (topS 21)) .none kV17 dc17 pm17 an17 cd17 ct17), sl17⟩) (c17 : PySem.W.codeIn K cd17 "_law_fr" = true) (k17 : PySem.W.keepIn K (.ref f17) = true)
    {f18 : Addr} {oc18 kV18 dc18 pm18 cd18 ct18 : Value} {od18 an18 : Option Addr} {sl18 : Array (Option Value)} (a18 : PySem.W.nsIn K mainGlobals "_law_plus" = some (some (.ref f18))) (l18 : K.lookup f18 = some ⟨oc18, od18, .func (PySem.W.fnOf "_law_plus" "_law_plus" (defArgs (topS 22)) (defBody (topS 22)) (defScope (topS 22)) .none kV18 dc18 pm18 an18 cd18 ct18), sl18⟩) (c18 : PySem.W.codeIn K cd18 "_law_plus" = true) (k18 : PySem.W.keepIn K (.ref f18) = true)
    {f19 : Addr} {oc19 kV19 dc19 pm19 cd19 ct19 : Value} {od19 an19 : Option Addr} {sl19 : Array (Option Value)} (a19 : PySem.W.nsIn K mainGlobals "_law_times" = some (some (.ref f19))) (l19 : K.lookup f19 = some ⟨oc19, od19, .func (PySem.W.fnOf "_law_times" "_law_times" (defArgs (topS 23)) (defBody (topS 23)) (defScope (topS 23)) .none kV19 dc19 pm19 an19 cd19 ct19), sl19⟩) (c19 : PySem.W.codeIn K cd19 "_law_times" = true) (k19 : PySem.W.keepIn K (.ref f19) = true)
    {f20 : Addr} {oc20 kV20 dc20 pm20 cd20 ct20 : Value} {od20 an20 : Option Addr} {sl20 : Array (Option Value)} (a20 : PySem.W.nsIn K mainGlobals "_law_more" = some (some (.ref f20))) (l20 : K.lookup f20 = some ⟨oc20, od20, .func (PySem.W.fnOf "_law_more" "_law_more" (defArgs (topS 24)) (defBody (topS 24)) (defScope (topS 24)) .none kV20 dc20 pm20 an20 cd20 ct20), sl20⟩) (c20 : PySem.W.codeIn K cd20 "_law_more" = true) (k20 : PySem.W.keepIn K (.ref f20) = true)
    {f21 : Addr} {oc21 kV21 dc21 pm21 cd21 ct21 : Value} {od21 an21 : Option Addr} {sl21 : Array (Option Value)} (a21 : PySem.W.nsIn K mainGlobals "_law_lengths" = some (some (.ref f21))) (l21 : K.lookup f21 = some ⟨oc21, od21, .func (PySem.W.fnOf "_law_lengths" "_law_lengths" (defArgs (topS 25)) (defBody (topS 25)) (defScope (topS 25)) .none kV21 dc21 pm21 an21 cd21 ct21), sl21⟩) (c21 : PySem.W.codeIn K cd21 "_law_lengths" = true) (k21 : PySem.W.keepIn K (.ref f21) = true)
    {f22 : Addr} {oc22 kV22 dc22 pm22 cd22 ct22 : Value} {od22 an22 : Option Addr} {sl22 : Array (Option Value)} (a22 : PySem.W.nsIn K mainGlobals "_law_timer" = some (some (.ref f22))) (l22 : K.lookup f22 = some ⟨oc22, od22, .func (PySem.W.fnOf "_law_timer" "_law_timer" (defArgs (topS 26)) (defBody (topS 26)) (defScope (topS 26)) .none kV22 dc22 pm22 an22 cd22 ct22), sl22⟩) (c22 : PySem.W.codeIn K cd22 "_law_timer" = true) (k22 : PySem.W.keepIn K (.ref f22) = true)
    {f23 : Addr} {oc23 kV23 dc23 pm23 cd23 ct23 : Value} {od23 an23 : Option Addr} {sl23 : Array (Option Value)} (a23 : PySem.W.nsIn K mainGlobals "_law_samples" = some (some (.ref f23))) (l23 : K.lookup f23 = some ⟨oc23, od23, .func (PySem.W.fnOf "_law_samples" "_law_samples" (defArgs (topS 27)) (defBody (topS 27)) (defScope (topS 27)) .none kV23 dc23 pm23 an23 cd23 ct23), sl23⟩) (c23 : PySem.W.codeIn K cd23 "_law_samples" = true) (k23 : PySem.W.keepIn K (.ref f23) = true)
    {f24 : Addr} {oc24 kV24 dc24 pm24 cd24 ct24 : Value} {od24 an24 : Option Addr} {sl24 : Array (Option Value)} (a24 : PySem.W.nsIn K mainGlobals "law" = some (some (.ref f24))) (l24 : K.lookup f24 = some ⟨oc24, od24, .func (PySem.W.fnOf "law" "law" (defArgs (topS 28)) (defBody (topS 28)) (defScope (topS 28)) .none kV24 dc24 pm24 an24 cd24 ct24), sl24⟩) (c24 : PySem.W.codeIn K cd24 "law" = true) (k24 : PySem.W.keepIn K (.ref f24) = true)
    (z0 : PySem.W.nsIn K mainGlobals "abs" = some none)
    (z1 : PySem.W.nsIn K mainGlobals "tuple" = some none)
    (z2 : PySem.W.nsIn K mainGlobals "int" = some none)
    (z3 : PySem.W.nsIn K mainGlobals "len" = some none)
    (z4 : PySem.W.nsIn K mainGlobals "range" = some none)
    (z5 : PySem.W.nsIn K mainGlobals "isinstance" = some none)
    (z6 : PySem.W.nsIn K mainGlobals "str" = some none)
    (z7 : PySem.W.nsIn K mainGlobals "bool" = some none)
    (z8 : PySem.W.nsIn K mainGlobals "min" = some none)
    : ∃ fd : FuncData, (∀ (s : Shared) (v : Value), BindsTo s fd ⟨[v], []⟩ [("script", v)]) ∧ ∀ base : Heap, K.In base → base.Ns mainGlobals mg → FnOk l.prog w K mg base CX0 LV fa fd ["script"] (GSp K 1 (callN P LV i_law)) := by
  have e := hfa.symm.trans (PySem.W.mg_of X G a24)
  cases e
  have K0 : DefK K mg kw 0 d_divisor := defK_mk (d := d_divisor) X G a0 l0 c0 k0 (fun _ _ _ _ _ _ us hl => match us, hl with | [_, _], _ => rfl) (fun kV doc pm an cdv ct q hq => (nomatch (show q ∈ ([] : List (Nat × List Str × List Nat)) from hq)))
  have K1 : DefK K mg kw 1 d_lowest := defK_mk (d := d_lowest) X G a1 l1 c1 k1 (fun _ _ _ _ _ _ us hl => match us, hl with | [_, _], _ => rfl) (fun kV doc pm an cdv ct q hq => (nomatch (show q ∈ ([] : List (Nat × List Str × List Nat)) from hq)))
  have K2 : DefK K mg kw 2 d_plus := defK_mk (d := d_plus) X G a2 l2 c2 k2 (fun _ _ _ _ _ _ us hl => match us, hl with | [_, _], _ => rfl) (fun kV doc pm an cdv ct q hq => (nomatch (show q ∈ ([] : List (Nat × List Str × List Nat)) from hq)))
  have K3 : DefK K mg kw 3 d_product := defK_mk (d := d_product) X G a3 l3 c3 k3 (fun _ _ _ _ _ _ us hl => match us, hl with | [_, _], _ => rfl) (fun kV doc pm an cdv ct q hq => (nomatch (show q ∈ ([] : List (Nat × List Str × List Nat)) from hq)))
  have K4 : DefK K mg kw 4 d_is_less := defK_mk (d := d_is_less) X G a4 l4 c4 k4 (fun _ _ _ _ _ _ us hl => match us, hl with | [_, _], _ => rfl) (fun kV doc pm an cdv ct q hq => (nomatch (show q ∈ ([] : List (Nat × List Str × List Nat)) from hq)))
  have K5 : DefK K mg kw 5 d_greater_of := defK_mk (d := d_greater_of) X G a5 l5 c5 k5 (fun _ _ _ _ _ _ us hl => match us, hl with | [_, _], _ => rfl) (fun kV doc pm an cdv ct q hq => (nomatch (show q ∈ ([] : List (Nat × List Str × List Nat)) from hq)))
  have K6 : DefK K mg kw 6 d_gap_size := defK_mk (d := d_gap_size) X G a6 l6 c6 k6 (fun _ _ _ _ _ _ us hl => match us, hl with | [_, _], _ => rfl) (fun kV doc pm an cdv ct q hq => (nomatch (show q ∈ ([] : List (Nat × List Str × List Nat)) from hq)))
  have K7 : DefK K mg kw 7 d_smoothed := defK_mk (d := d_smoothed) X G a7 l7 c7 k7 (fun _ _ _ _ _ _ us hl => match us, hl with | [_, _, _], _ => rfl) (fun kV doc pm an cdv ct q hq => (nomatch (show q ∈ ([] : List (Nat × List Str × List Nat)) from hq)))
  have K8 : DefK K mg kw 8 d_first_pair := defK_mk (d := d_first_pair) X G a8 l8 c8 k8 (fun _ _ _ _ _ _ us hl => match us, hl with | [_], _ => rfl) (fun kV doc pm an cdv ct q hq => (nomatch (show q ∈ ([] : List (Nat × List Str × List Nat)) from hq)))
  have K9 : DefK K mg kw 9 d_length_of := defK_mk (d := d_length_of) X G a9 l9 c9 k9 (fun _ _ _ _ _ _ us hl => match us, hl with | [_, _, _], _ => rfl) (fun kV doc pm an cdv ct q hq => by
      have hq' : q ∈ [((0, [PySem.Str.ofString "grain", PySem.Str.ofString "spread", PySem.Str.ofString "smooth"], [2, 1, 0]) : Nat × List Str × List Nat)] := hq
      simp only [List.mem_cons, List.not_mem_nil, or_false] at hq'
      subst hq'
      · exact ⟨fun us ws h1 h2 => match us, ws, h1, h2 with | [], [_, _, _], _, _ => rfl, by decide⟩)
  have K10 : DefK K mg kw 10 d_lengths := defK_mk (d := d_lengths) X G a10 l10 c10 k10 (fun _ _ _ _ _ _ us hl => match us, hl with | [_], _ => rfl) (fun kV doc pm an cdv ct q hq => by
      have hq' : q ∈ [((0, [PySem.Str.ofString "samples"], [0]) : Nat × List Str × List Nat)] := hq
      simp only [List.mem_cons, List.not_mem_nil, or_false] at hq'
      subst hq'
      · exact ⟨fun us ws h1 h2 => match us, ws, h1, h2 with | [], [_], _, _ => rfl, by decide⟩)
  have K11 : DefK K mg kw 11 d_least_length := defK_mk (d := d_least_length) X G a11 l11 c11 k11 (fun _ _ _ _ _ _ us hl => match us, hl with | [_, _, _, _], _ => rfl) (fun kV doc pm an cdv ct q hq => by
      have hq' : q ∈ [((0, [PySem.Str.ofString "grain", PySem.Str.ofString "many", PySem.Str.ofString "high", PySem.Str.ofString "low"], [3, 2, 1, 0]) : Nat × List Str × List Nat)] := hq
      simp only [List.mem_cons, List.not_mem_nil, or_false] at hq'
      subst hq'
      · exact ⟨fun us ws h1 h2 => match us, ws, h1, h2 with | [], [_, _, _, _], _, _ => rfl, by decide⟩)
  have K12 : DefK K mg kw 12 d__law_bag := defK_mk (d := d__law_bag) X G a12 l12 c12 k12 (fun _ _ _ _ _ _ us hl => match us, hl with | [_], _ => rfl) (fun kV doc pm an cdv ct q hq => (nomatch (show q ∈ ([] : List (Nat × List Str × List Nat)) from hq)))
  have K13 : DefK K mg kw 13 d__law_draw := defK_mk (d := d__law_draw) X G a13 l13 c13 k13 (fun _ _ _ _ _ _ us hl => match us, hl with | [_, _], _ => rfl) (fun kV doc pm an cdv ct q hq => (nomatch (show q ∈ ([] : List (Nat × List Str × List Nat)) from hq)))
  have K14 : DefK K mg kw 14 d__law_pick := defK_mk (d := d__law_pick) X G a14 l14 c14 k14 (fun _ _ _ _ _ _ us hl => match us, hl with | [_, _], _ => rfl) (fun kV doc pm an cdv ct q hq => (nomatch (show q ∈ ([] : List (Nat × List Str × List Nat)) from hq)))
  have K15 : DefK K mg kw 15 d__law_same := defK_mk (d := d__law_same) X G a15 l15 c15 k15 (fun _ _ _ _ _ _ us hl => match us, hl with | [_, _], _ => rfl) (fun kV doc pm an cdv ct q hq => (nomatch (show q ∈ ([] : List (Nat × List Str × List Nat)) from hq)))
  have K16 : DefK K mg kw 16 d__law_gcd := defK_mk (d := d__law_gcd) X G a16 l16 c16 k16 (fun _ _ _ _ _ _ us hl => match us, hl with | [_, _], _ => rfl) (fun kV doc pm an cdv ct q hq => (nomatch (show q ∈ ([] : List (Nat × List Str × List Nat)) from hq)))
  have K17 : DefK K mg kw 17 d__law_fr := defK_mk (d := d__law_fr) X G a17 l17 c17 k17 (fun _ _ _ _ _ _ us hl => match us, hl with | [_, _], _ => rfl) (fun kV doc pm an cdv ct q hq => (nomatch (show q ∈ ([] : List (Nat × List Str × List Nat)) from hq)))
  have K18 : DefK K mg kw 18 d__law_plus := defK_mk (d := d__law_plus) X G a18 l18 c18 k18 (fun _ _ _ _ _ _ us hl => match us, hl with | [_, _], _ => rfl) (fun kV doc pm an cdv ct q hq => (nomatch (show q ∈ ([] : List (Nat × List Str × List Nat)) from hq)))
  have K19 : DefK K mg kw 19 d__law_times := defK_mk (d := d__law_times) X G a19 l19 c19 k19 (fun _ _ _ _ _ _ us hl => match us, hl with | [_, _], _ => rfl) (fun kV doc pm an cdv ct q hq => (nomatch (show q ∈ ([] : List (Nat × List Str × List Nat)) from hq)))
  have K20 : DefK K mg kw 20 d__law_more := defK_mk (d := d__law_more) X G a20 l20 c20 k20 (fun _ _ _ _ _ _ us hl => match us, hl with | [_, _], _ => rfl) (fun kV doc pm an cdv ct q hq => (nomatch (show q ∈ ([] : List (Nat × List Str × List Nat)) from hq)))
  have K21 : DefK K mg kw 21 d__law_lengths := defK_mk (d := d__law_lengths) X G a21 l21 c21 k21 (fun _ _ _ _ _ _ us hl => match us, hl with | [_], _ => rfl) (fun kV doc pm an cdv ct q hq => (nomatch (show q ∈ ([] : List (Nat × List Str × List Nat)) from hq)))
  have K22 : DefK K mg kw 22 d__law_timer := defK_mk (d := d__law_timer) X G a22 l22 c22 k22 (fun _ _ _ _ _ _ us hl => match us, hl with | [_, _, _], _ => rfl) (fun kV doc pm an cdv ct q hq => (nomatch (show q ∈ ([] : List (Nat × List Str × List Nat)) from hq)))
  have K23 : DefK K mg kw 23 d__law_samples := defK_mk (d := d__law_samples) X G a23 l23 c23 k23 (fun _ _ _ _ _ _ us hl => match us, hl with | [_], _ => rfl) (fun kV doc pm an cdv ct q hq => (nomatch (show q ∈ ([] : List (Nat × List Str × List Nat)) from hq)))
  have K24 : DefK K mg kw 24 d_law := defK_mk (d := d_law) X G a24 l24 c24 k24 (fun _ _ _ _ _ _ us hl => match us, hl with | [_], _ => rfl) (fun kV doc pm an cdv ct q hq => (nomatch (show q ∈ ([] : List (Nat × List Str × List Nat)) from hq)))
  have hk : ∀ (f : Nat) (d : Def), T[f]? = some d → DefK K mg kw f d := kall_get (⟨K0, ⟨K1, ⟨K2, ⟨K3, ⟨K4, ⟨K5, ⟨K6, ⟨K7, ⟨K8, ⟨K9, ⟨K10, ⟨K11, ⟨K12, ⟨K13, ⟨K14, ⟨K15, ⟨K16, ⟨K17, ⟨K18, ⟨K19, ⟨K20, ⟨K21, ⟨K22, ⟨K23, ⟨K24, True.intro⟩⟩⟩⟩⟩⟩⟩⟩⟩⟩⟩⟩⟩⟩⟩⟩⟩⟩⟩⟩⟩⟩⟩⟩⟩)
  have hb : ∀ x, bl.contains x = true → mg x = none := fun x hx => by
    have hx' : x ∈ bl := by simpa using hx
    simp only [bl, List.mem_cons, List.not_mem_nil, or_false] at hx'
    rcases hx' with rfl | rfl | rfl | rfl | rfl | rfl | rfl | rfl | rfl
    · exact PySem.W.mg_none_of X G z0
    · exact PySem.W.mg_none_of X G z1
    · exact PySem.W.mg_none_of X G z2
    · exact PySem.W.mg_none_of X G z3
    · exact PySem.W.mg_none_of X G z4
    · exact PySem.W.mg_none_of X G z5
    · exact PySem.W.mg_none_of X G z6
    · exact PySem.W.mg_none_of X G z7
    · exact PySem.W.mg_none_of X G z8
  have F := fun_mk (st := topS 28) l24 c24 k24
  exact ⟨_, fun s v => .of_eq rfl, fun base _ _ => callN_ok (T := T) hs hk hb LV i_law d_law fa _ rfl F⟩
end LW
namespace LW
open PySem PySem.Spec PyProof.Rows L2 SX
noncomputable section
open Classical
local macro_rules | `(tactic| walk_at "ev") => `(tactic| simp (config := { maxSteps := 3000000 }) (disch := first | assumption | omega | exact ⟨by omega, by omega⟩ | exact ⟨⟨by omega, by omega⟩, ⟨by omega, by omega⟩⟩ | exact Nat.le_of_ble_eq_true rfl | decide) only [bnd_ok, bnd_bad, binJ_eq, binK_eq, notK_eq, cmpJ_eq, cmpK_eq, idxJ_eq, idxK_eq, calJ_eq, clkJ_eq, clkK_eq, priJ_eq, isiJ_eq, metJ_eq, metI_t, metK_eq, lcJ_eq, lcK_eq, conJ_eq, conK_eq, andJ_eq, orJ_eq, rg2J_eq, nxtK_eq, setI1_eq, setI2_eq, setI3_eq, retK_eq,  vE_var, varK_ok, vE_int, vE_bl, vE_non, vE_str, vE_tup, vE_lst, vE_bin, vE_neg, vE_not, vE_and, vE_or, vE_cmp, vE_ite, brE_t, brE_f, vE_idx, vE_slc, vE_call, vE_callk, vE_prim, vE_isin, vE_meth, vE_lc, vEs_nil, vEs_cons, vA_one, vA_cons, vO_one, vO_cons, andK_t, andK_f, orK_t, orK_f, vT_nil, vT_cons, vI_seq, seqK_tup, seqK_rls, seqK_loc, seqL_ok, vI_range1, rg1_int, vI_range2, rg2_int,
  xS_asg, asgK_nm, asgT_nm, asgT_tp2, asgT_tp3, asgK_tp2, asgK_tp3, xS_par, parK_2, parK_3, xS_setS, xS_aug, augV_ok, augK_add, augK_sub, xS_expr, xS_ret, xS_retN, xS_ite, brS_t, brS_f, xS_wh, whB_t, whB_f, whK_n, whK_c, whK_b, whK_r, xS_fo, foT_some, foK_n, foK_c, foK_b, foK_r, xS_brk, xS_cont, xS_pass, xSs_nil, xSs_cons, sqK_n, sqK_r, sqK_b, sqK_c,
  b_add, b_sub, b_mul, b_mulL, b_mulR, b_fdiv, b_mod, b_pow, b_addT, b_addL, addL_ok, b_repT, k_lt, k_le, k_gt, k_ge, k_eq, k_ne, k_isN, k_notN, q_int, q_bl, q_str, ofB_some, Option.map_some, tr_bl, tr_int, tr_non, tr_tup, tr_loc, trK_ok, td_bl, td_int, td_tup, i_tup, i_rls, i_loc, idxL_ok, okV_some, at0, at1, at2, at3, at_m1, tupK_ok, lstK_ok, negK_int, p_abs, p_int, p_intB, p_lenT, p_lenR, p_lenL, lenL_ok, p_max, p_min, p_tupT, p_tupL, tupL_ok, p_lstT, p_lstL, lstL_ok, isD_ok, m_app, appL_ok, m_pop, popL_ok, m_rev, revL_ok, recv_ok, recvL_ok, set_loc, setL_ok, setI_ok, new_eq, Bool.not_true, Bool.not_false, if_true, eq_self, decide_true, decide_false,
  List.set_cons_zero, List.set_cons_succ, List.getElem?_cons_zero, List.getElem?_cons_succ, List.length_cons, List.length_nil, Option.some.injEq])
local macro_rules | `(tactic| walk_at "ev*") => `(tactic| simp (config := { maxSteps := 3000000 }) (disch := first | assumption | omega | exact ⟨by omega, by omega⟩ | exact ⟨⟨by omega, by omega⟩, ⟨by omega, by omega⟩⟩ | exact Nat.le_of_ble_eq_true rfl | decide) only [bnd_ok, bnd_bad, binJ_eq, binK_eq, notK_eq, cmpJ_eq, cmpK_eq, idxJ_eq, idxK_eq, calJ_eq, clkJ_eq, clkK_eq, priJ_eq, isiJ_eq, metJ_eq, metI_t, metK_eq, lcJ_eq, lcK_eq, conJ_eq, conK_eq, andJ_eq, orJ_eq, rg2J_eq, nxtK_eq, setI1_eq, setI2_eq, setI3_eq, retK_eq,  vE_var, varK_ok, vE_int, vE_bl, vE_non, vE_str, vE_tup, vE_lst, vE_bin, vE_neg, vE_not, vE_and, vE_or, vE_cmp, vE_ite, brE_t, brE_f, vE_idx, vE_slc, vE_call, vE_callk, vE_prim, vE_isin, vE_meth, vE_lc, vEs_nil, vEs_cons, vA_one, vA_cons, vO_one, vO_cons, andK_t, andK_f, orK_t, orK_f, vT_nil, vT_cons, vI_seq, seqK_tup, seqK_rls, seqK_loc, seqL_ok, vI_range1, rg1_int, vI_range2, rg2_int,
  xS_asg, asgK_nm, asgT_nm, asgT_tp2, asgT_tp3, asgK_tp2, asgK_tp3, xS_par, parK_2, parK_3, xS_setS, xS_aug, augV_ok, augK_add, augK_sub, xS_expr, xS_ret, xS_retN, xS_ite, brS_t, brS_f, xS_wh, whB_t, whB_f, whK_n, whK_c, whK_b, whK_r, xS_fo, foT_some, foK_n, foK_c, foK_b, foK_r, xS_brk, xS_cont, xS_pass, xSs_nil, xSs_cons, sqK_n, sqK_r, sqK_b, sqK_c,
  b_add, b_sub, b_mul, b_mulL, b_mulR, b_fdiv, b_mod, b_pow, b_addT, b_addL, addL_ok, b_repT, k_lt, k_le, k_gt, k_ge, k_eq, k_ne, k_isN, k_notN, q_int, q_bl, q_str, ofB_some, Option.map_some, tr_bl, tr_int, tr_non, tr_tup, tr_loc, trK_ok, td_bl, td_int, td_tup, i_tup, i_rls, i_loc, idxL_ok, okV_some, at0, at1, at2, at3, at_m1, tupK_ok, lstK_ok, negK_int, p_abs, p_int, p_intB, p_lenT, p_lenR, p_lenL, lenL_ok, p_max, p_min, p_tupT, p_tupL, tupL_ok, p_lstT, p_lstL, lstL_ok, isD_ok, m_app, appL_ok, m_pop, popL_ok, m_rev, revL_ok, recv_ok, recvL_ok, set_loc, setL_ok, setI_ok, new_eq, Bool.not_true, Bool.not_false, if_true, eq_self, decide_true, decide_false,
  List.set_cons_zero, List.set_cons_succ, List.getElem?_cons_zero, List.getElem?_cons_succ, List.length_cons, List.length_nil, Option.some.injEq, *])
local macro_rules | `(tactic| walk_at "evs") => `(tactic| simp (config := { maxSteps := 3000000 }) (disch := first | assumption | omega | exact ⟨by omega, by omega⟩ | exact ⟨⟨by omega, by omega⟩, ⟨by omega, by omega⟩⟩ | exact Nat.le_of_ble_eq_true rfl | decide) only [bnd_ok, bnd_bad, binJ_eq, binK_eq, notK_eq, cmpJ_eq, cmpK_eq, idxJ_eq, idxK_eq, calJ_eq, clkJ_eq, clkK_eq, priJ_eq, isiJ_eq, metJ_eq, metI_t, metK_eq, lcJ_eq, lcK_eq, conJ_eq, conK_eq, andJ_eq, orJ_eq, rg2J_eq, nxtK_eq, setI1_eq, setI2_eq, setI3_eq, retK_eq,  vE_var, varK_ok, vE_int, vE_bl, vE_non, vE_str, vE_tup, vE_lst, vE_bin, vE_neg, vE_not, vE_and, vE_or, vE_cmp, vE_ite, brE_t, brE_f, vE_idx, vE_slc, vE_call, vE_callk, vE_prim, vE_isin, vE_meth, vE_lc, vEs_nil, vEs_cons, vA_one, vA_cons, vO_one, vO_cons, andK_t, andK_f, orK_t, orK_f, vT_nil, vT_cons, vI_seq, seqK_tup, seqK_rls, seqK_loc, seqL_ok, vI_range1, rg1_int, vI_range2, rg2_int,
  xS_asg, asgK_nm, asgT_nm, asgT_tp2, asgT_tp3, asgK_tp2, asgK_tp3, xS_par, parK_2, parK_3, xS_setS, xS_aug, augV_ok, augK_add, augK_sub, xS_expr, xS_ret, xS_retN, xS_ite, brS_t, brS_f, xS_wh, whB_t, whB_f, whK_n, whK_c, whK_b, whK_r, xS_fo, foT_some, foK_n, foK_c, foK_b, foK_r, xS_brk, xS_cont, xS_pass, xSs_nil, xSs_cons, sqK_n, sqK_r, sqK_b, sqK_c,
  b_add, b_sub, b_mul, b_mulL, b_mulR, b_fdiv, b_mod, b_pow, b_addT, b_addL, addL_ok, b_repT, k_lt, k_le, k_gt, k_ge, k_eq, k_ne, k_isN, k_notN, q_int, q_bl, q_str, ofB_some, Option.map_some, tr_bl, tr_int, tr_non, tr_tup, tr_loc, trK_ok, td_bl, td_int, td_tup, i_tup, i_rls, i_loc, idxL_ok, okV_some, at0, at1, at2, at3, at_m1, tupK_ok, lstK_ok, negK_int, p_abs, p_int, p_intB, p_lenT, p_lenR, p_lenL, lenL_ok, p_max, p_min, p_tupT, p_tupL, tupL_ok, p_lstT, p_lstL, lstL_ok, isD_ok, m_app, appL_ok, m_pop, popL_ok, m_rev, revL_ok, recv_ok, recvL_ok, set_loc, setL_ok, setI_ok, new_eq, Bool.not_true, Bool.not_false, if_true, eq_self, decide_true, decide_false,
  List.set_cons_zero, List.set_cons_succ, List.getElem?_cons_zero, List.getElem?_cons_succ, List.length_cons, List.length_nil, Option.some.injEq, List.cons_append, List.nil_append, List.append_assoc, Nat.reduceAdd, st_get, st_get0, st_set, st_set0, List.length_append, Nat.add_zero, Nat.zero_add, *])

/-! ### the plain law -/
abbrev Fr := Int × Int
def stepF (p : Fr × Fr) (r : Int) : Fr × Fr :=
  (plusF (timesF (7, 8) p.1) (lowF r 8), plusF (timesF (3, 4) p.2) (timesF (1, 4) (lowF ((p.1.1 - r * p.1.2).natAbs : Int) p.1.2)))
def firstF (r : Int) : Fr × Fr := ((r, 1), lowF r 2)
def runF : Fr × Fr → List Int → List (Fr × Fr)
  | _, [] => []
  | p, r :: rs => stepF p r :: runF (stepF p r) rs
def lastF : Fr × Fr → List Int → Fr × Fr
  | p, [] => p
  | p, r :: rs => lastF (stepF p r) rs
def lensF : List Int → List (Fr × Fr)
  | [] => []
  | r :: rs => firstF r :: runF (firstF r) rs
def pairD (p : Fr × Fr) : D := .tup [frD p.1, frD p.2]
structure OkP (k : Nat) (p : Fr × Fr) : Prop where
  a : Fb (2 * 8 ^ k) (10000 * 4 ^ k) p.1
  b : Fb (2 * 8 ^ k) (10000 * 4 ^ k) p.2
def Rg (r : Int) : Prop := 0 < r ∧ r ≤ 10000
theorem ok_first {r : Int} (h : Rg r) : OkP 0 (firstF r) := by
  obtain ⟨h1, h2⟩ := h
  refine ⟨⟨(by decide : (0 : Int) < 1), ⟨2, rfl⟩, ?_⟩, fb_fr (by decide) ⟨1, rfl⟩ ?_⟩
  · show r.natAbs ≤ 10000 * 4 ^ 0 * (1 : Int).natAbs
    simp; omega
  · simp; omega
theorem ok_off {k : Nat} {p : Fr × Fr} {r : Int} (hp : OkP k p) (h : Rg r) : Fb (2 * 8 ^ k) (10000 * 4 ^ k + 10000) (lowF ((p.1.1 - r * p.1.2).natAbs : Int) p.1.2) := by
  refine fb_fr hp.a.pos hp.a.dvd ?_
  rw [Int.natAbs_natCast]
  have h1 := hp.a.le
  have h2 : (r * p.1.2).natAbs ≤ 10000 * p.1.2.natAbs := by
    rw [Int.natAbs_mul]
    exact Nat.mul_le_mul_right _ (by have := h.1; have := h.2; omega)
  rw [Nat.add_mul]
  omega
abbrev Lv (k : Nat) (p : Fr) : Prop := Fb (2 * 8 ^ k) (10000 * 4 ^ k) p
theorem lv_sm {k : Nat} {p : Fr} (hp : Lv k p) (hk : k ≤ 100) : Sm p := by
  have h8 : 2 * 8 ^ k < 2 ^ 1500 := by
    have : 2 * 8 ^ k = 2 ^ (1 + 3 * k) := by rw [Nat.pow_add, Nat.pow_mul]
    rw [this]
    exact Nat.pow_lt_pow_right (by decide) (by omega)
  have h4 : 10000 * 4 ^ k < 2 ^ 1500 := by
    have e : 2 ^ 14 * 4 ^ k = 2 ^ (14 + 2 * k) := by rw [Nat.pow_add, Nat.pow_mul]
    have : 2 ^ (14 + 2 * k) < 2 ^ 1500 := Nat.pow_lt_pow_right (by decide) (by omega)
    have e5 : 10000 * 4 ^ k ≤ 2 ^ 14 * 4 ^ k := Nat.mul_le_mul_right _ (by decide)
    omega
  have h0 : 0 < 2 * 8 ^ k := Nat.mul_pos (by decide) (Nat.pow_pos (by decide))
  exact hp.sm h0 h8 h4
theorem lv_parts {k : Nat} {p : Fr × Fr} {r : Int} (hp : OkP k p) (h : Rg r) : Lv (k + 1) (timesF (7, 8) p.1) ∧ Lv (k + 1) (lowF r 8) ∧ Lv (k + 1) (timesF (3, 4) p.2) ∧ Lv (k + 1) (lowF ((p.1.1 - r * p.1.2).natAbs : Int) p.1.2) ∧ Lv (k + 1) (timesF (1, 4) (lowF ((p.1.1 - r * p.1.2).natAbs : Int) p.1.2)) ∧ OkP (k + 1) (stepF p r) := by
  have e8 : (8 : Nat) ^ (k + 1) = 8 ^ k * 8 := Nat.pow_succ ..
  have e4 : (4 : Nat) ^ (k + 1) = 4 ^ k * 4 := Nat.pow_succ ..
  have p4 : 1 ≤ 4 ^ k := Nat.pos_of_ne_zero (by have := Nat.pow_pos (n := k) (show 0 < 4 by decide); omega)
  have l78 : Fb 8 1 (7, 8) := ⟨by decide, ⟨1, rfl⟩, by decide⟩
  have l34 : Fb 4 1 (3, 4) := ⟨by decide, ⟨1, rfl⟩, by decide⟩
  have l14 : Fb 4 1 (1, 4) := ⟨by decide, ⟨1, rfl⟩, by decide⟩
  have a1 := (fb_times l78 hp.a).up (E := 2 * 8 ^ (k + 1)) ⟨1, by omega⟩
  have a2 : Fb 8 10000 (lowF r 8) := fb_fr (by decide) ⟨1, rfl⟩ (by have := h.1; have := h.2; omega)
  have a3 := a2.up (E := 2 * 8 ^ (k + 1)) ⟨2 * 8 ^ k, by omega⟩
  have b1 := (fb_times l34 hp.b).up (E := 2 * 8 ^ (k + 1)) ⟨2, by omega⟩
  have b2 := (ok_off hp h).up (E := 2 * 8 ^ (k + 1)) ⟨8, by omega⟩
  have b3 := (fb_times l14 (ok_off hp h)).up (E := 2 * 8 ^ (k + 1)) ⟨2, by omega⟩
  exact ⟨a1.mono (by omega), a3.mono (by omega), b1.mono (by omega), b2.mono (by omega), b3.mono (by omega), (fb_plus a1 a3).mono (by omega), (fb_plus b1 b3).mono (by omega)⟩
theorem ok_sm {k : Nat} {p : Fr × Fr} (hp : OkP k p) (hk : k ≤ 100) : Sm p.1 ∧ Sm p.2 := ⟨lv_sm hp.a hk, lv_sm hp.b hk⟩
/-! ### the functions -/
theorem g0 : GcdOk P 0 := gcdOk_D rfl
theorem f1 : FrOk P 1 := frOk rfl g0
theorem pl2 : PlusOk P 2 := plusOk rfl f1
theorem ti3 : TimesOk P 3 := timesOk rfl f1
theorem mo5 : MoreOk P 5 := greaterOk rfl rfl
theorem g16 : GcdOk P 16 := gcdOk_F rfl
theorem f17 : FrOk P 17 := frOk rfl g16
theorem pl18 : PlusOk P 18 := plusOk rfl f17
theorem ti19 : TimesOk P 19 := timesOk rfl f17
theorem mo20 : MoreOk P 20 := moreOk rfl
theorem dr13 : DrawOk P 13 := drawOk rfl
theorem pk14 : PickOk P 14 := pickOk rfl dr13
theorem sa15 : SameOk P 15 := sameOk rfl
theorem sm_of {a b : Int} (ha : a.natAbs < 2 ^ 64) (h0 : 0 < b) (hb : b.natAbs < 2 ^ 64) : Sm (a, b) := by
  have : (2 : Nat) ^ 64 ≤ 2 ^ 3000 := pow_le_pow (by decide)
  exact ⟨Nat.lt_of_lt_of_le ha this, h0, Nat.lt_of_lt_of_le hb this⟩
theorem i_fr (p : Fr) (i : Int) (S : Store) : idxD (frD p) (.int i) S = okV (atI [.int p.1, .int p.2] i) S := rfl
theorem e_gap (n : Nat) (p q : Fr) (S : Store) (hp : Sm p) (hq : Sm q) : callN P (n + 3) 6 [frD p, frD q] S = .ok (frD (lowF ((p.1 * q.2 - q.1 * p.2).natAbs : Int) (p.2 * q.2))) S := by
  rw [callN_eq (n + 2) _ _ (fd := ⟨2, 2, b_gap_size, true⟩) rfl rfl (Nat.le_of_ble_eq_true rfl)]
  refine end_pure (env := [some (frD p), some (frD q)]) ?_ rfl rfl
  show exSs (callN P (n + 2)) b_gap_size [some (frD p), some (frD q)] S = _
  unfold b_gap_size frD
  have c1 := sm_mul hp.n hq.d
  have c2 := sm_mul hq.n hp.d
  have c3 := sm_mul hp.d hq.d
  have d := sm_den hp hq
  have e := f1 n ((p.1 * q.2 - q.1 * p.2).natAbs : Int) (p.2 * q.2) S d.1 d.2
  unfold frD at e
  walk_at "ev*"
theorem e_smoothed (n : Nat) {k : Nat} (hk : k ≤ 90) (p : Fr × Fr) (hp : OkP k p) (r : Int) (hr : Rg r) (S : Store) : callN P (n + 4) 7 [frD p.1, frD p.2, .int r] S = .ok (pairD (stepF p r)) S := by
  rw [callN_eq (n + 3) _ _ (fd := ⟨3, 4, b_smoothed, true⟩) rfl rfl (Nat.le_of_ble_eq_true rfl)]
  refine end_pure (env := [some (frD p.1), some (frD (stepF p r).2), some (.int r), some (.tup [.int r, .int 1])]) ?_ rfl rfl
  show exSs (callN P (n + 3)) b_smoothed [some (frD p.1), some (frD p.2), some (.int r), none] S = _
  unfold b_smoothed pairD
  obtain ⟨s1, s2⟩ := ok_sm hp (by omega)
  have s3 : Sm (r, 1) := sm_of (by have := hr.1; have := hr.2; omega) (by decide) (by decide)
  have s4 : Sm (3, 4) := sm_of (by decide) (by decide) (by decide)
  have s5 : Sm (1, 4) := sm_of (by decide) (by decide) (by decide)
  have s6 : Sm (7, 8) := sm_of (by decide) (by decide) (by decide)
  have s7 : Sm (1, 8) := sm_of (by decide) (by decide) (by decide)
  obtain ⟨q1, q2, q3, q4, q5, q6⟩ := lv_parts hp hr
  have q1 := lv_sm q1 (by omega)
  have q2 := lv_sm q2 (by omega)
  have q3 := lv_sm q3 (by omega)
  have q4 := lv_sm q4 (by omega)
  have q5 := lv_sm q5 (by omega)
  have x1 : callN P (n + 3) 3 [.tup [.int 3, .int 4], frD p.2] S = .ok (frD (timesF (3, 4) p.2)) S := ti3 n (3, 4) p.2 S s4 s2
  have x2 : callN P (n + 3) 6 [frD p.1, .tup [.int r, .int 1]] S = .ok (frD (lowF ((p.1.1 - r * p.1.2).natAbs : Int) p.1.2)) S := by
    have := e_gap n p.1 (r, 1) S s1 s3
    simp only [Int.mul_one] at this
    exact this
  have x3 : callN P (n + 3) 3 [.tup [.int 1, .int 4], frD (lowF ((p.1.1 - r * p.1.2).natAbs : Int) p.1.2)] S = .ok (frD (timesF (1, 4) (lowF ((p.1.1 - r * p.1.2).natAbs : Int) p.1.2))) S := ti3 n (1, 4) _ S s5 q4
  have x4 : callN P (n + 3) 2 [frD (timesF (3, 4) p.2), frD (timesF (1, 4) (lowF ((p.1.1 - r * p.1.2).natAbs : Int) p.1.2))] S = .ok (frD (stepF p r).2) S := pl2 n _ _ S q3 q5
  have x5 : callN P (n + 3) 3 [.tup [.int 7, .int 8], frD p.1] S = .ok (frD (timesF (7, 8) p.1)) S := ti3 n (7, 8) p.1 S s6 s1
  have x6 : callN P (n + 3) 3 [.tup [.int 1, .int 8], .tup [.int r, .int 1]] S = .ok (frD (lowF r 8)) S := by
    have := ti3 n (1, 8) (r, 1) S s7 s3
    unfold timesF at this
    simp only [Int.mul_one, Int.one_mul] at this
    exact this
  have x7 : callN P (n + 3) 2 [frD (timesF (7, 8) p.1), frD (lowF r 8)] S = .ok (frD (stepF p r).1) S := pl2 n _ _ S q1 q2
  clear q1 q2 q3 q4 q5 q6 s1 s2 s3 s4 s5 s6 s7 hp hr hk
  generalize lowF r 8 = w1 at x6 x7
  walk_at "ev*"
theorem e_first (n : Nat) (r : Int) (S : Store) : callN P (n + 3) 8 [.int r] S = .ok (pairD (firstF r)) S := by
  rw [callN_eq (n + 2) _ _ (fd := ⟨1, 1, b_first_pair, true⟩) rfl rfl (Nat.le_of_ble_eq_true rfl)]
  refine end_pure (env := [some (.int r)]) ?_ rfl rfl
  show exSs (callN P (n + 2)) b_first_pair [some (.int r)] S = _
  unfold b_first_pair pairD
  have e : callN P (n + 2) 1 [.int r, .int 2] S = .ok (frD (lowF r 2)) S := f1 n r 2 S (by decide) (Nat.lt_of_lt_of_le (by decide : (2 : Int).natAbs < 2 ^ 2) (pow_le_pow (by decide)))
  walk_at "ev*"
  rfl
def timF (sm sp : Fr) (g : Int) : Fr := plusF sm (moreF (g, 1) (timesF (4, 1) sp))
structure TimOk (sm sp : Fr) (g : Int) : Prop where
  a : Sm sm
  b : Sm sp
  c : Sm (g, 1)
  d : Sm (timesF (4, 1) sp)
theorem sm_more {p q : Fr} (hp : Sm p) (hq : Sm q) : Sm (moreF p q) := by
  unfold moreF
  split
  · exact hq
  · exact hp
theorem e_lengthof (n : Nat) (sm sp : Fr) (g : Int) (h : TimOk sm sp g) (S : Store) : callN P (n + 4) 9 [frD sm, frD sp, .int g] S = .ok (frD (timF sm sp g)) S := by
  rw [callN_eq (n + 3) _ _ (fd := ⟨3, 3, b_length_of, true⟩) rfl rfl (Nat.le_of_ble_eq_true rfl)]
  refine end_pure (env := [some (frD sm), some (frD sp), some (.int g)]) ?_ rfl rfl
  show exSs (callN P (n + 3)) b_length_of [some (frD sm), some (frD sp), some (.int g)] S = _
  unfold b_length_of
  have s1 : Sm (4, 1) := sm_of (by decide) (by decide) (by decide)
  have x1 : callN P (n + 3) 3 [.tup [.int 4, .int 1], frD sp] S = .ok (frD (timesF (4, 1) sp)) S := ti3 n (4, 1) sp S s1 h.b
  have x2 : callN P (n + 3) 5 [.tup [.int g, .int 1], frD (timesF (4, 1) sp)] S = .ok (frD (moreF (g, 1) (timesF (4, 1) sp))) S := mo5 (n + 1) (g, 1) _ S h.c h.d
  have x3 : callN P (n + 3) 2 [frD sm, frD (moreF (g, 1) (timesF (4, 1) sp))] S = .ok (frD (timF sm sp g)) S := pl2 n _ _ S h.a (sm_more h.c h.d)
  walk_at "ev*"
theorem e_timer (n : Nat) (sm sp : Fr) (g : Int) (h : TimOk sm sp g) (S : Store) : callN P (n + 4) 22 [frD sm, frD sp, .int g] S = .ok (frD (timF sm sp g)) S := by
  rw [callN_eq (n + 3) _ _ (fd := ⟨3, 3, b__law_timer, true⟩) rfl rfl (Nat.le_of_ble_eq_true rfl)]
  refine end_pure (env := [some (frD sm), some (frD sp), some (.int g)]) ?_ rfl rfl
  show exSs (callN P (n + 3)) b__law_timer [some (frD sm), some (frD sp), some (.int g)] S = _
  unfold b__law_timer
  have s1 : Sm (4, 1) := sm_of (by decide) (by decide) (by decide)
  have x1 : callN P (n + 3) 19 [.tup [.int 4, .int 1], frD sp] S = .ok (frD (timesF (4, 1) sp)) S := ti19 n (4, 1) sp S s1 h.b
  have x2 : callN P (n + 3) 20 [.tup [.int g, .int 1], frD (timesF (4, 1) sp)] S = .ok (frD (moreF (g, 1) (timesF (4, 1) sp))) S := mo20 (n + 1) (g, 1) _ S h.c h.d
  have x3 : callN P (n + 3) 18 [frD sm, frD (moreF (g, 1) (timesF (4, 1) sp))] S = .ok (frD (timF sm sp g)) S := pl18 n _ _ S h.a (sm_more h.c h.d)
  walk_at "ev*"
/-! ### the lists -/
def lenB : Ss := .cons (.asg (.tp (.cons (.nm 3) (.cons (.nm 4) .nil))) (.idx (.var 1) (.neg (.cint 1)))) (.cons (.expr (.meth .append (.var 1) (.cons (.call 7 (.cons (.var 3) (.cons (.var 4) (.cons (.var 2) .nil)))) .nil))) .nil)
theorem len_loop (n : Nat) (S : Store) (x : D) (w : Walk) (hw : ∀ s, w.here s) : ∀ (rs : List Int) (k : Nat) (p : Fr × Fr) (pre : List D) (o2 o3 o4 : Option D), OkP k p → k + rs.length ≤ 90 → (∀ r ∈ rs, Rg r) → pre.length + rs.length < 1000 →
    ∃ o2' o3' o4', foS (callN P (n + 4)) (.nm 2) lenB w (rs.map .int) [some x, some (.loc S.length), o2, o3, o4] (S ++ [.lst (pre ++ [pairD p])])
      = .ok (.next, [some x, some (.loc S.length), o2', o3', o4']) (S ++ [.lst (pre ++ (p :: runF p rs).map pairD)]) := by
  intro rs
  induction rs with
  | nil =>
    intro k p pre o2 o3 o4 _ _ _ _
    exact ⟨o2, o3, o4, fo_nil _ _ _ _ _ _ (hw _)⟩
  | cons r rs ih =>
    intro k p pre o2 o3 o4 hp hk hr hl
    rw [List.length_cons] at hk hl
    obtain ⟨o2', o3', o4', h⟩ := ih (k + 1) (stepF p r) (pre ++ [pairD p]) (some (.int r)) (some (frD p.1)) (some (frD p.2)) (lv_parts hp (hr r (List.mem_cons_self ..))).2.2.2.2.2 (by omega) (fun z hz => hr z (List.mem_cons_of_mem _ hz)) (by rw [List.length_append]; simp only [List.length_cons, List.length_nil]; omega)
    refine ⟨o2', o3', o4', ?_⟩
    have e := e_smoothed n (by omega) p hp r (hr r (List.mem_cons_self ..)) (S ++ [.lst (pre ++ [pairD p])])
    have L0 : LINE = 16777216 := rfl
    have hL : (pre ++ [pairD p]).length < LINE := by rw [List.length_append]; simp only [List.length_cons, List.length_nil]; omega
    have hx : (S ++ [.lst (pre ++ [pairD p])])[S.length]? = some (.lst (pre ++ [pairD p])) := by rw [st_get0]; rfl
    have hs : (S ++ [SO.lst (pre ++ [pairD p])]).set S.length (.lst (pre ++ [pairD p] ++ [pairD (stepF p r)])) = S ++ [SO.lst (pre ++ [pairD p] ++ [pairD (stepF p r)])] := by rw [st_set0]; rfl
    have t : asgK [some x, some (.loc S.length), some (.int r), o3, o4] (.tp (.cons (.nm 3) (.cons (.nm 4) .nil))) (pairD p) (S ++ [.lst (pre ++ [pairD p])]) = .ok (.next, [some x, some (.loc S.length), some (.int r), some (frD p.1), some (frD p.2)]) (S ++ [.lst (pre ++ [pairD p])]) := rfl
    rw [List.map_cons, fo_cons _ _ _ _ _ _ _ _ (hw _), asgT_nm, foT_some]
    have b : exSs (callN P (n + 4)) lenB [some x, some (.loc S.length), some (.int r), o3, o4] (S ++ [.lst (pre ++ [pairD p])]) = .ok (.next, [some x, some (.loc S.length), some (.int r), some (frD p.1), some (frD p.2)]) (S ++ [.lst (pre ++ [pairD p] ++ [pairD (stepF p r)])]) := by
      unfold lenB
      clear h ih hr hk hl hp
      walk_at "ev*"
    simp only [List.set_cons_zero, List.set_cons_succ]
    rw [b, bnd_ok, foK_n, h]
    congr 3
    simp only [runF, List.map_cons, List.append_assoc, List.cons_append, List.nil_append]
theorem cl_pairs (n : Nat) : ∀ ps : List (Fr × Fr), clDs n (ps.map pairD) = true
  | [] => rfl
  | p :: ps => by
    rw [List.map_cons, clDs, cl_pairs n ps]
    rfl
theorem e_lengths (n : Nat) (rs : List Int) (hne : rs ≠ []) (hl : rs.length ≤ 80) (hr : ∀ r ∈ rs, Rg r) (S : Store) : callN P (n + 5) 10 [.tup (rs.map .int)] S = .ok (.tup ((lensF rs).map pairD)) S := by
  cases rs with
  | nil => exact absurd rfl hne
  | cons r rs =>
  rw [callN_eq (n + 4) _ _ (fd := ⟨1, 5, b_lengths, true⟩) rfl rfl (Nat.le_of_ble_eq_true rfl)]
  obtain ⟨o2, o3, o4, h⟩ := len_loop n S (.tup ((r :: rs).map .int)) ⟨rs.map .int, none⟩ (fun s => here_none s _) rs 0 (firstF r) [] none none none (ok_first (hr r (List.mem_cons_self ..))) (by simp only [List.length_cons] at hl; omega) (fun z hz => hr z (List.mem_cons_of_mem _ hz)) (by simp only [List.length_cons, List.length_nil] at hl ⊢; omega)
  refine end_app (env := [some (.tup ((r :: rs).map .int)), some (.loc S.length), o2, o3, o4]) [.lst ((lensF (r :: rs)).map pairD)] ?_ rfl ?_
  · show exSs (callN P (n + 4)) b_lengths [some (.tup ((r :: rs).map .int)), none, none, none, none] S = _
    unfold b_lengths
    have e := e_first (n + 1) r S
    rw [xSs_cons]
    have s1 : exS (callN P (n + 4)) (.asg (.nm 1) (.lst (.cons (.call 8 (.cons (.idx (.var 0) (.cint 0)) .nil)) .nil))) [some (.tup ((r :: rs).map .int)), none, none, none, none] S = .ok (.next, [some (.tup ((r :: rs).map .int)), some (.loc S.length), none, none, none]) (S ++ [.lst [pairD (firstF r)]]) := by
      rw [List.map_cons]
      have e' : callN P (n + 4) 8 [.int r] S = .ok (pairD (firstF r)) S := e
      clear e h hr hl
      walk_at "ev*"
    rw [s1, bnd_ok, sqK_n, xSs_cons, xS_fo, vI_seq, slc_tail _ _ _ _ (S ++ [.lst [pairD (firstF r)]]) (.int r) (rs.map .int) (by rw [vE_var]; rfl), bnd_ok, seqK_tup, bnd_ok]
    rw [List.nil_append] at h
    show ((foS (callN P (n + 4)) (.nm 2) lenB _ (rs.map .int) _ _).bnd _) = _
    rw [h, bnd_ok, sqK_n]
    have hx : (S ++ [SO.lst ([] ++ (firstF r :: runF (firstF r) rs).map pairD)])[S.length]? = some (.lst ((lensF (r :: rs)).map pairD)) := by rw [st_get0]; rfl
    clear h hr hl
    walk_at "ev*"
    rfl
  · exact cl_pairs _ _
end
end LW
namespace LW
open PySem PySem.Spec PyProof.Rows L2 SX
noncomputable section
open Classical
local macro_rules | `(tactic| walk_at "ev") => `(tactic| simp (config := { maxSteps := 3000000 }) (disch := first | assumption | omega | exact ⟨by omega, by omega⟩ | exact ⟨⟨by omega, by omega⟩, ⟨by omega, by omega⟩⟩ | exact Nat.le_of_ble_eq_true rfl | decide) only [bnd_ok, bnd_bad, binJ_eq, binK_eq, notK_eq, cmpJ_eq, cmpK_eq, idxJ_eq, idxK_eq, calJ_eq, clkJ_eq, clkK_eq, priJ_eq, isiJ_eq, metJ_eq, metI_t, metK_eq, lcJ_eq, lcK_eq, conJ_eq, conK_eq, andJ_eq, orJ_eq, rg2J_eq, nxtK_eq, setI1_eq, setI2_eq, setI3_eq, retK_eq,  vE_var, varK_ok, vE_int, vE_bl, vE_non, vE_str, vE_tup, vE_lst, vE_bin, vE_neg, vE_not, vE_and, vE_or, vE_cmp, vE_ite, brE_t, brE_f, vE_idx, vE_slc, vE_call, vE_callk, vE_prim, vE_isin, vE_meth, vE_lc, vEs_nil, vEs_cons, vA_one, vA_cons, vO_one, vO_cons, andK_t, andK_f, orK_t, orK_f, vT_nil, vT_cons, vI_seq, seqK_tup, seqK_rls, seqK_loc, seqL_ok, vI_range1, rg1_int, vI_range2, rg2_int,
  xS_asg, asgK_nm, asgT_nm, asgT_tp2, asgT_tp3, asgK_tp2, asgK_tp3, xS_par, parK_2, parK_3, xS_setS, xS_aug, augV_ok, augK_add, augK_sub, xS_expr, xS_ret, xS_retN, xS_ite, brS_t, brS_f, xS_wh, whB_t, whB_f, whK_n, whK_c, whK_b, whK_r, xS_fo, foT_some, foK_n, foK_c, foK_b, foK_r, xS_brk, xS_cont, xS_pass, xSs_nil, xSs_cons, sqK_n, sqK_r, sqK_b, sqK_c,
  b_add, b_sub, b_mul, b_mulL, b_mulR, b_fdiv, b_mod, b_pow, b_addT, b_addL, addL_ok, b_repT, k_lt, k_le, k_gt, k_ge, k_eq, k_ne, k_isN, k_notN, q_int, q_bl, q_str, ofB_some, Option.map_some, tr_bl, tr_int, tr_non, tr_tup, tr_loc, trK_ok, td_bl, td_int, td_tup, i_tup, i_rls, i_loc, idxL_ok, okV_some, at0, at1, at2, at3, at_m1, tupK_ok, lstK_ok, negK_int, p_abs, p_int, p_intB, p_lenT, p_lenR, p_lenL, lenL_ok, p_max, p_min, p_tupT, p_tupL, tupL_ok, p_lstT, p_lstL, lstL_ok, isD_ok, m_app, appL_ok, m_pop, popL_ok, m_rev, revL_ok, recv_ok, recvL_ok, set_loc, setL_ok, setI_ok, new_eq, Bool.not_true, Bool.not_false, if_true, eq_self, decide_true, decide_false,
  List.set_cons_zero, List.set_cons_succ, List.getElem?_cons_zero, List.getElem?_cons_succ, List.length_cons, List.length_nil, Option.some.injEq])
local macro_rules | `(tactic| walk_at "ev*") => `(tactic| simp (config := { maxSteps := 3000000 }) (disch := first | assumption | omega | exact ⟨by omega, by omega⟩ | exact ⟨⟨by omega, by omega⟩, ⟨by omega, by omega⟩⟩ | exact Nat.le_of_ble_eq_true rfl | decide) only [bnd_ok, bnd_bad, binJ_eq, binK_eq, notK_eq, cmpJ_eq, cmpK_eq, idxJ_eq, idxK_eq, calJ_eq, clkJ_eq, clkK_eq, priJ_eq, isiJ_eq, metJ_eq, metI_t, metK_eq, lcJ_eq, lcK_eq, conJ_eq, conK_eq, andJ_eq, orJ_eq, rg2J_eq, nxtK_eq, setI1_eq, setI2_eq, setI3_eq, retK_eq,  vE_var, varK_ok, vE_int, vE_bl, vE_non, vE_str, vE_tup, vE_lst, vE_bin, vE_neg, vE_not, vE_and, vE_or, vE_cmp, vE_ite, brE_t, brE_f, vE_idx, vE_slc, vE_call, vE_callk, vE_prim, vE_isin, vE_meth, vE_lc, vEs_nil, vEs_cons, vA_one, vA_cons, vO_one, vO_cons, andK_t, andK_f, orK_t, orK_f, vT_nil, vT_cons, vI_seq, seqK_tup, seqK_rls, seqK_loc, seqL_ok, vI_range1, rg1_int, vI_range2, rg2_int,
  xS_asg, asgK_nm, asgT_nm, asgT_tp2, asgT_tp3, asgK_tp2, asgK_tp3, xS_par, parK_2, parK_3, xS_setS, xS_aug, augV_ok, augK_add, augK_sub, xS_expr, xS_ret, xS_retN, xS_ite, brS_t, brS_f, xS_wh, whB_t, whB_f, whK_n, whK_c, whK_b, whK_r, xS_fo, foT_some, foK_n, foK_c, foK_b, foK_r, xS_brk, xS_cont, xS_pass, xSs_nil, xSs_cons, sqK_n, sqK_r, sqK_b, sqK_c,
  b_add, b_sub, b_mul, b_mulL, b_mulR, b_fdiv, b_mod, b_pow, b_addT, b_addL, addL_ok, b_repT, k_lt, k_le, k_gt, k_ge, k_eq, k_ne, k_isN, k_notN, q_int, q_bl, q_str, ofB_some, Option.map_some, tr_bl, tr_int, tr_non, tr_tup, tr_loc, trK_ok, td_bl, td_int, td_tup, i_tup, i_rls, i_loc, idxL_ok, okV_some, at0, at1, at2, at3, at_m1, tupK_ok, lstK_ok, negK_int, p_abs, p_int, p_intB, p_lenT, p_lenR, p_lenL, lenL_ok, p_max, p_min, p_tupT, p_tupL, tupL_ok, p_lstT, p_lstL, lstL_ok, isD_ok, m_app, appL_ok, m_pop, popL_ok, m_rev, revL_ok, recv_ok, recvL_ok, set_loc, setL_ok, setI_ok, new_eq, Bool.not_true, Bool.not_false, if_true, eq_self, decide_true, decide_false,
  List.set_cons_zero, List.set_cons_succ, List.getElem?_cons_zero, List.getElem?_cons_succ, List.length_cons, List.length_nil, Option.some.injEq, *])
local macro_rules | `(tactic| walk_at "evs") => `(tactic| simp (config := { maxSteps := 3000000 }) (disch := first | assumption | omega | exact ⟨by omega, by omega⟩ | exact ⟨⟨by omega, by omega⟩, ⟨by omega, by omega⟩⟩ | exact Nat.le_of_ble_eq_true rfl | decide) only [bnd_ok, bnd_bad, binJ_eq, binK_eq, notK_eq, cmpJ_eq, cmpK_eq, idxJ_eq, idxK_eq, calJ_eq, clkJ_eq, clkK_eq, priJ_eq, isiJ_eq, metJ_eq, metI_t, metK_eq, lcJ_eq, lcK_eq, conJ_eq, conK_eq, andJ_eq, orJ_eq, rg2J_eq, nxtK_eq, setI1_eq, setI2_eq, setI3_eq, retK_eq,  vE_var, varK_ok, vE_int, vE_bl, vE_non, vE_str, vE_tup, vE_lst, vE_bin, vE_neg, vE_not, vE_and, vE_or, vE_cmp, vE_ite, brE_t, brE_f, vE_idx, vE_slc, vE_call, vE_callk, vE_prim, vE_isin, vE_meth, vE_lc, vEs_nil, vEs_cons, vA_one, vA_cons, vO_one, vO_cons, andK_t, andK_f, orK_t, orK_f, vT_nil, vT_cons, vI_seq, seqK_tup, seqK_rls, seqK_loc, seqL_ok, vI_range1, rg1_int, vI_range2, rg2_int,
  xS_asg, asgK_nm, asgT_nm, asgT_tp2, asgT_tp3, asgK_tp2, asgK_tp3, xS_par, parK_2, parK_3, xS_setS, xS_aug, augV_ok, augK_add, augK_sub, xS_expr, xS_ret, xS_retN, xS_ite, brS_t, brS_f, xS_wh, whB_t, whB_f, whK_n, whK_c, whK_b, whK_r, xS_fo, foT_some, foK_n, foK_c, foK_b, foK_r, xS_brk, xS_cont, xS_pass, xSs_nil, xSs_cons, sqK_n, sqK_r, sqK_b, sqK_c,
  b_add, b_sub, b_mul, b_mulL, b_mulR, b_fdiv, b_mod, b_pow, b_addT, b_addL, addL_ok, b_repT, k_lt, k_le, k_gt, k_ge, k_eq, k_ne, k_isN, k_notN, q_int, q_bl, q_str, ofB_some, Option.map_some, tr_bl, tr_int, tr_non, tr_tup, tr_loc, trK_ok, td_bl, td_int, td_tup, i_tup, i_rls, i_loc, idxL_ok, okV_some, at0, at1, at2, at3, at_m1, tupK_ok, lstK_ok, negK_int, p_abs, p_int, p_intB, p_lenT, p_lenR, p_lenL, lenL_ok, p_max, p_min, p_tupT, p_tupL, tupL_ok, p_lstT, p_lstL, lstL_ok, isD_ok, m_app, appL_ok, m_pop, popL_ok, m_rev, revL_ok, recv_ok, recvL_ok, set_loc, setL_ok, setI_ok, new_eq, Bool.not_true, Bool.not_false, if_true, eq_self, decide_true, decide_false,
  List.set_cons_zero, List.set_cons_succ, List.getElem?_cons_zero, List.getElem?_cons_succ, List.length_cons, List.length_nil, Option.some.injEq, List.cons_append, List.nil_append, List.append_assoc, Nat.reduceAdd, st_get, st_get0, st_set, st_set0, List.length_append, Nat.add_zero, Nat.zero_add, *])

/-! ### the law's lists -/
theorem noStrs_pairs : ∀ ps : List (Fr × Fr), noStrs (ps.map pairD) = true
  | [] => rfl
  | p :: ps => by
    rw [List.map_cons, noStrs, noStrs_pairs ps]
    rfl
theorem depDs_pairs : ∀ ps : List (Fr × Fr), depDs (ps.map pairD) ≤ 2
  | [] => by rw [List.map_nil, depDs]; omega
  | p :: ps => by
    have := depDs_pairs ps
    have h2 : depD (pairD p) = 2 := rfl
    rw [List.map_cons, depDs]
    omega
def llB1 : Ss := .cons (.expr (.meth .append (.var 1) (.cons (.tup (.cons (.tup (.cons (.var 2) (.cons (.cint 1) .nil))) (.cons (.call 17 (.cons (.var 2) (.cons (.cint 2) .nil))) .nil))) .nil))) .nil
def llB2 : Ss := .cons (.asg (.tp (.cons (.nm 3) (.cons (.nm 4) .nil))) (.idx (.var 1) (.neg (.cint 1)))) (.cons (.asg (.nm 5) (.call 17 (.cons (.prim .abs (.cons (.bin .sub (.idx (.var 3) (.cint 0)) (.bin .mul (.var 2) (.idx (.var 3) (.cint 1)))) .nil)) (.cons (.idx (.var 3) (.cint 1)) .nil)))) (.cons (.asg (.nm 4) (.call 18 (.cons (.call 19 (.cons (.tup (.cons (.cint 3) (.cons (.cint 4) .nil))) (.cons (.var 4) .nil))) (.cons (.call 19 (.cons (.tup (.cons (.cint 1) (.cons (.cint 4) .nil))) (.cons (.var 5) .nil))) .nil)))) (.cons (.asg (.nm 3) (.call 18 (.cons (.call 19 (.cons (.tup (.cons (.cint 7) (.cons (.cint 8) .nil))) (.cons (.var 3) .nil))) (.cons (.call 17 (.cons (.var 2) (.cons (.cint 8) .nil))) .nil)))) (.cons (.expr (.meth .append (.var 1) (.cons (.tup (.cons (.var 3) (.cons (.var 4) .nil))) .nil))) .nil))))
def llB : Ss := .cons (.ite (.cmp .eq (.var 1) (.lst .nil)) llB1 llB2) .nil
theorem ll_eq : b__law_lengths = .cons (.asg (.nm 1) (.lst .nil)) (.cons (.fo (.nm 2) (.seq (.var 0)) llB) (.cons (.ret (.prim .tuple (.cons (.var 1) .nil))) .nil)) := rfl
/-- the test of a turn -/
theorem ll_test (F : Fns) (S J : Store) (x : D) (ps : List (Fr × Fr)) (o2 o3 o4 o5 : Option D) :
    truR (evE F (.cmp .eq (.var 1) (.lst .nil)) [some x, some (.loc S.length), o2, o3, o4, o5] (S ++ (.lst (ps.map pairD) :: J))) = .ok ps.isEmpty (S ++ (.lst (ps.map pairD) :: (J ++ [.lst []]))) := by
  have hq : eqD (.loc S.length) (.loc (S ++ (.lst (ps.map pairD) :: J)).length) ((S ++ (.lst (ps.map pairD) :: J)) ++ [.lst []]) = some ps.isEmpty := by
    have := q_empty (S := (S ++ (.lst (ps.map pairD) :: J)) ++ [.lst []]) (l := S.length) (m := (S ++ (.lst (ps.map pairD) :: J)).length) (ds := ps.map pairD) (by rw [List.append_assoc, st_get0]; rfl) (by rw [st_get0]; rfl) (noStrs_pairs _) (Nat.le_trans (depDs_pairs _) (by decide))
    rw [this]
    cases ps <;> rfl
  walk_at "ev*"
  simp
theorem ll_turn2 (n : Nat) (S1 S2 : Store) (l : Nat) {k : Nat} (hk : k ≤ 90) (p : Fr × Fr) (hp : OkP k p) (pre : List D) (hl : pre.length < 1000) (r : Int) (hr : Rg r) (x : D) (o3 o4 o5 : Option D)
    (hx : S1[l]? = some (.lst (pre ++ [pairD p]))) (hs : S1.set l (.lst (pre ++ [pairD p] ++ [pairD (stepF p r)])) = S2) :
    exSs (callN P (n + 4)) llB2 [some x, some (.loc l), some (.int r), o3, o4, o5] S1 = .ok (.next, [some x, some (.loc l), some (.int r), some (frD (stepF p r).1), some (frD (stepF p r).2), some (frD (lowF ((p.1.1 - r * p.1.2).natAbs : Int) p.1.2))]) S2 := by
  unfold llB2
  obtain ⟨s1, s2⟩ := ok_sm hp (by omega)
  have s4 : Sm (3, 4) := sm_of (by decide) (by decide) (by decide)
  have s5 : Sm (1, 4) := sm_of (by decide) (by decide) (by decide)
  have s6 : Sm (7, 8) := sm_of (by decide) (by decide) (by decide)
  obtain ⟨q1, q2, q3, q4, q5, q6⟩ := lv_parts hp hr
  have q1 := lv_sm q1 (by omega)
  have q2 := lv_sm q2 (by omega)
  have q3 := lv_sm q3 (by omega)
  have q4 := lv_sm q4 (by omega)
  have q5 := lv_sm q5 (by omega)
  have big : (2 : Nat) ^ 3000 ≤ 2 ^ 8000 := pow_le_pow (by decide)
  have x1 : callN P (n + 4) 19 [.tup [.int 3, .int 4], frD p.2] S1 = .ok (frD (timesF (3, 4) p.2)) S1 := ti19 (n + 1) (3, 4) p.2 S1 s4 s2
  have x2 : callN P (n + 4) 17 [.int ((p.1.1 - r * p.1.2).natAbs : Int), .int p.1.2] S1 = .ok (frD (lowF ((p.1.1 - r * p.1.2).natAbs : Int) p.1.2)) S1 := f17 (n + 2) _ _ S1 s1.pos (Nat.lt_of_lt_of_le s1.d big)
  have x3 : callN P (n + 4) 19 [.tup [.int 1, .int 4], frD (lowF ((p.1.1 - r * p.1.2).natAbs : Int) p.1.2)] S1 = .ok (frD (timesF (1, 4) (lowF ((p.1.1 - r * p.1.2).natAbs : Int) p.1.2))) S1 := ti19 (n + 1) (1, 4) _ S1 s5 q4
  have x4 : callN P (n + 4) 18 [frD (timesF (3, 4) p.2), frD (timesF (1, 4) (lowF ((p.1.1 - r * p.1.2).natAbs : Int) p.1.2))] S1 = .ok (frD (stepF p r).2) S1 := pl18 (n + 1) _ _ S1 q3 q5
  have x5 : callN P (n + 4) 19 [.tup [.int 7, .int 8], frD p.1] S1 = .ok (frD (timesF (7, 8) p.1)) S1 := ti19 (n + 1) (7, 8) p.1 S1 s6 s1
  have x6 : callN P (n + 4) 17 [.int r, .int 8] S1 = .ok (frD (lowF r 8)) S1 := f17 (n + 2) _ _ S1 (by decide) (Nat.lt_of_lt_of_le (by decide : (8 : Int).natAbs < 2 ^ 4) (pow_le_pow (by decide)))
  have x7 : callN P (n + 4) 18 [frD (timesF (7, 8) p.1), frD (lowF r 8)] S1 = .ok (frD (stepF p r).1) S1 := pl18 (n + 1) _ _ S1 q1 q2
  have c1 : CMulW r p.1.2 ∨ CMul r p.1.2 := cmul_small' (by have := hr.1; have := hr.2; omega)
  have L0 : LINE = 16777216 := rfl
  have hL : (pre ++ [pairD p]).length < LINE := by rw [List.length_append]; simp only [List.length_cons, List.length_nil]; omega
  have t : asgK [some x, some (.loc l), some (.int r), o3, o4, o5] (.tp (.cons (.nm 3) (.cons (.nm 4) .nil))) (pairD p) S1 = .ok (.next, [some x, some (.loc l), some (.int r), some (frD p.1), some (frD p.2), o5]) S1 := rfl
  have y := i_fr p.1
  have z : ∀ a b : Fr, D.tup [frD a, frD b] = pairD (a, b) := fun _ _ => rfl
  clear q1 q2 q3 q4 q5 q6 s1 s2 s4 s5 s6 hp hr hk hl big
  walk_at "ev*"
theorem ll_loop (n : Nat) (S : Store) (x : D) (w : Walk) (hw : ∀ s, w.here s) : ∀ (rs : List Int) (k : Nat) (p : Fr × Fr) (ps : List (Fr × Fr)) (J : Store) (o2 o3 o4 o5 : Option D), OkP k p → k + rs.length ≤ 90 → (∀ r ∈ rs, Rg r) → ps.length + rs.length < 1000 →
    ∃ o2' o3' o4' o5' J', foS (callN P (n + 4)) (.nm 2) llB w (rs.map .int) [some x, some (.loc S.length), o2, o3, o4, o5] (S ++ (.lst ((ps ++ [p]).map pairD) :: J))
      = .ok (.next, [some x, some (.loc S.length), o2', o3', o4', o5']) (S ++ (.lst ((ps ++ p :: runF p rs).map pairD) :: J')) := by
  intro rs
  induction rs with
  | nil =>
    intro k p ps J o2 o3 o4 o5 _ _ _ _
    exact ⟨o2, o3, o4, o5, J, fo_nil _ _ _ _ _ _ (hw _)⟩
  | cons r rs ih =>
    intro k p ps J o2 o3 o4 o5 hp hk hr hl
    rw [List.length_cons] at hk hl
    have hr0 := hr r (List.mem_cons_self ..)
    obtain ⟨o2', o3', o4', o5', J', h⟩ := ih (k + 1) (stepF p r) (ps ++ [p]) (J ++ [.lst []]) (some (.int r)) (some (frD (stepF p r).1)) (some (frD (stepF p r).2)) (some (frD (lowF ((p.1.1 - r * p.1.2).natAbs : Int) p.1.2))) (lv_parts hp hr0).2.2.2.2.2 (by omega) (fun z hz => hr z (List.mem_cons_of_mem _ hz)) (by rw [List.length_append]; simp only [List.length_cons, List.length_nil]; omega)
    refine ⟨o2', o3', o4', o5', J', ?_⟩
    rw [List.map_cons, fo_cons _ _ _ _ _ _ _ _ (hw _), asgT_nm, foT_some]
    simp only [List.set_cons_zero, List.set_cons_succ]
    have b : exSs (callN P (n + 4)) llB [some x, some (.loc S.length), some (.int r), o3, o4, o5] (S ++ (.lst ((ps ++ [p]).map pairD) :: J)) = .ok (.next, [some x, some (.loc S.length), some (.int r), some (frD (stepF p r).1), some (frD (stepF p r).2), some (frD (lowF ((p.1.1 - r * p.1.2).natAbs : Int) p.1.2))]) (S ++ (.lst ((ps ++ [p] ++ [stepF p r]).map pairD) :: (J ++ [.lst []]))) := by
      unfold llB
      rw [xSs_cons, xS_ite, ll_test, bnd_ok]
      have he : (ps ++ [p]).isEmpty = false := by cases ps <;> rfl
      rw [he, brS_f, ll_turn2 n _ _ S.length (by omega) p hp (ps.map pairD) (by rw [List.length_map]; omega) r hr0 x o3 o4 o5 (by rw [st_get0, List.map_append]; rfl) rfl, bnd_ok, sqK_n, xSs_nil, st_set0]
      simp only [List.map_append, List.map_cons, List.map_nil, List.set_cons_zero]
    rw [b, bnd_ok, foK_n, h]
    congr 3
    simp only [runF, List.append_assoc, List.cons_append, List.nil_append]
theorem e_lawlen (n : Nat) (rs : List Int) (hne : rs ≠ []) (hl : rs.length ≤ 80) (hr : ∀ r ∈ rs, Rg r) (S : Store) : callN P (n + 5) 21 [.tup (rs.map .int)] S = .ok (.tup ((lensF rs).map pairD)) S := by
  cases rs with
  | nil => exact absurd rfl hne
  | cons r rs =>
  rw [callN_eq (n + 4) _ _ (fd := ⟨1, 6, b__law_lengths, true⟩) rfl rfl (Nat.le_of_ble_eq_true rfl)]
  obtain ⟨o2, o3, o4, o5, J, h⟩ := ll_loop n S (.tup ((r :: rs).map .int)) ⟨(r :: rs).map .int, none⟩ (fun s => here_none s _) rs 0 (firstF r) [] [.lst []] (some (.int r)) none none none (ok_first (hr r (List.mem_cons_self ..))) (by simp only [List.length_cons] at hl; omega) (fun z hz => hr z (List.mem_cons_of_mem _ hz)) (by simp only [List.length_cons, List.length_nil] at hl ⊢; omega)
  refine end_app (env := [some (.tup ((r :: rs).map .int)), some (.loc S.length), o2, o3, o4, o5]) (.lst ((lensF (r :: rs)).map pairD) :: J) ?_ rfl (cl_pairs _ _)
  show exSs (callN P (n + 4)) b__law_lengths [some (.tup ((r :: rs).map .int)), none, none, none, none, none] S = _
  rw [ll_eq, xSs_cons]
  have s1 : exS (callN P (n + 4)) (.asg (.nm 1) (.lst .nil)) [some (.tup ((r :: rs).map .int)), none, none, none, none, none] S = .ok (.next, [some (.tup ((r :: rs).map .int)), some (.loc S.length), none, none, none, none]) (S ++ [.lst []]) := by
    walk_at "ev"
  rw [s1, bnd_ok, sqK_n, xSs_cons, xS_fo, vI_seq, vE_var]
  rw [show [some (D.tup ((r :: rs).map .int)), some (.loc S.length), none, none, none, none][0]? = some (some (D.tup ((r :: rs).map .int))) from rfl, varK_ok, bnd_ok, seqK_tup, bnd_ok]
  show ((foS (callN P (n + 4)) (.nm 2) llB _ (.int r :: rs.map .int) _ _).bnd _) = _
  rw [fo_cons _ _ _ _ _ _ _ _ (here_none _ _), asgT_nm, foT_some]
  simp only [List.set_cons_zero, List.set_cons_succ]
  have b : exSs (callN P (n + 4)) llB [some (.tup ((r :: rs).map .int)), some (.loc S.length), some (.int r), none, none, none] (S ++ [.lst []]) = .ok (.next, [some (.tup ((r :: rs).map .int)), some (.loc S.length), some (.int r), none, none, none]) (S ++ [.lst ([firstF r].map pairD), .lst []]) := by
    unfold llB
    have ht := ll_test (callN P (n + 4)) S [] (.tup ((r :: rs).map .int)) [] (some (.int r)) none none none
    rw [List.map_nil] at ht
    rw [xSs_cons, xS_ite, ht, bnd_ok]
    rw [show ([] : List (Fr × Fr)).isEmpty = true from rfl, brS_t]
    unfold llB1
    have e : ∀ S1, callN P (n + 4) 17 [.int r, .int 2] S1 = .ok (frD (lowF r 2)) S1 := fun S1 => f17 (n + 2) _ _ S1 (by decide) (Nat.lt_of_lt_of_le (by decide : (2 : Int).natAbs < 2 ^ 4) (pow_le_pow (by decide)))
    clear h hr hl ht s1
    walk_at "evs"
    rfl
  rw [b, bnd_ok, foK_n, List.nil_append] at *
  rw [h, bnd_ok, sqK_n]
  have hx : (S ++ (SO.lst (([] ++ firstF r :: runF (firstF r) rs).map pairD) :: J))[S.length]? = some (.lst ((lensF (r :: rs)).map pairD)) := by rw [st_get0]; rfl
  clear h hr hl
  walk_at "ev*"
  rfl
end
end LW
namespace LW
open PySem PySem.Spec PyProof.Rows L2 SX
noncomputable section
open Classical
local macro_rules | `(tactic| walk_at "ev") => `(tactic| simp (config := { maxSteps := 3000000 }) (disch := first | assumption | omega | exact ⟨by omega, by omega⟩ | exact ⟨⟨by omega, by omega⟩, ⟨by omega, by omega⟩⟩ | exact Nat.le_of_ble_eq_true rfl | decide) only [bnd_ok, bnd_bad, binJ_eq, binK_eq, notK_eq, cmpJ_eq, cmpK_eq, idxJ_eq, idxK_eq, calJ_eq, clkJ_eq, clkK_eq, priJ_eq, isiJ_eq, metJ_eq, metI_t, metK_eq, lcJ_eq, lcK_eq, conJ_eq, conK_eq, andJ_eq, orJ_eq, rg2J_eq, nxtK_eq, setI1_eq, setI2_eq, setI3_eq, retK_eq,  vE_var, varK_ok, vE_int, vE_bl, vE_non, vE_str, vE_tup, vE_lst, vE_bin, vE_neg, vE_not, vE_and, vE_or, vE_cmp, vE_ite, brE_t, brE_f, vE_idx, vE_slc, vE_call, vE_callk, vE_prim, vE_isin, vE_meth, vE_lc, vEs_nil, vEs_cons, vA_one, vA_cons, vO_one, vO_cons, andK_t, andK_f, orK_t, orK_f, vT_nil, vT_cons, vI_seq, seqK_tup, seqK_rls, seqK_loc, seqL_ok, vI_range1, rg1_int, vI_range2, rg2_int,
  xS_asg, asgK_nm, asgT_nm, asgT_tp2, asgT_tp3, asgK_tp2, asgK_tp3, xS_par, parK_2, parK_3, xS_setS, xS_aug, augV_ok, augK_add, augK_sub, xS_expr, xS_ret, xS_retN, xS_ite, brS_t, brS_f, xS_wh, whB_t, whB_f, whK_n, whK_c, whK_b, whK_r, xS_fo, foT_some, foK_n, foK_c, foK_b, foK_r, xS_brk, xS_cont, xS_pass, xSs_nil, xSs_cons, sqK_n, sqK_r, sqK_b, sqK_c,
  b_add, b_sub, b_mul, b_mulL, b_mulR, b_fdiv, b_mod, b_pow, b_addT, b_addL, addL_ok, b_repT, k_lt, k_le, k_gt, k_ge, k_eq, k_ne, k_isN, k_notN, q_int, q_bl, q_str, ofB_some, Option.map_some, tr_bl, tr_int, tr_non, tr_tup, tr_loc, trK_ok, td_bl, td_int, td_tup, i_tup, i_rls, i_loc, idxL_ok, okV_some, at0, at1, at2, at3, at_m1, tupK_ok, lstK_ok, negK_int, p_abs, p_int, p_intB, p_lenT, p_lenR, p_lenL, lenL_ok, p_max, p_min, p_tupT, p_tupL, tupL_ok, p_lstT, p_lstL, lstL_ok, isD_ok, m_app, appL_ok, m_pop, popL_ok, m_rev, revL_ok, recv_ok, recvL_ok, set_loc, setL_ok, setI_ok, new_eq, Bool.not_true, Bool.not_false, if_true, eq_self, decide_true, decide_false,
  List.set_cons_zero, List.set_cons_succ, List.getElem?_cons_zero, List.getElem?_cons_succ, List.length_cons, List.length_nil, Option.some.injEq])
local macro_rules | `(tactic| walk_at "ev*") => `(tactic| simp (config := { maxSteps := 3000000 }) (disch := first | assumption | omega | exact ⟨by omega, by omega⟩ | exact ⟨⟨by omega, by omega⟩, ⟨by omega, by omega⟩⟩ | exact Nat.le_of_ble_eq_true rfl | decide) only [bnd_ok, bnd_bad, binJ_eq, binK_eq, notK_eq, cmpJ_eq, cmpK_eq, idxJ_eq, idxK_eq, calJ_eq, clkJ_eq, clkK_eq, priJ_eq, isiJ_eq, metJ_eq, metI_t, metK_eq, lcJ_eq, lcK_eq, conJ_eq, conK_eq, andJ_eq, orJ_eq, rg2J_eq, nxtK_eq, setI1_eq, setI2_eq, setI3_eq, retK_eq,  vE_var, varK_ok, vE_int, vE_bl, vE_non, vE_str, vE_tup, vE_lst, vE_bin, vE_neg, vE_not, vE_and, vE_or, vE_cmp, vE_ite, brE_t, brE_f, vE_idx, vE_slc, vE_call, vE_callk, vE_prim, vE_isin, vE_meth, vE_lc, vEs_nil, vEs_cons, vA_one, vA_cons, vO_one, vO_cons, andK_t, andK_f, orK_t, orK_f, vT_nil, vT_cons, vI_seq, seqK_tup, seqK_rls, seqK_loc, seqL_ok, vI_range1, rg1_int, vI_range2, rg2_int,
  xS_asg, asgK_nm, asgT_nm, asgT_tp2, asgT_tp3, asgK_tp2, asgK_tp3, xS_par, parK_2, parK_3, xS_setS, xS_aug, augV_ok, augK_add, augK_sub, xS_expr, xS_ret, xS_retN, xS_ite, brS_t, brS_f, xS_wh, whB_t, whB_f, whK_n, whK_c, whK_b, whK_r, xS_fo, foT_some, foK_n, foK_c, foK_b, foK_r, xS_brk, xS_cont, xS_pass, xSs_nil, xSs_cons, sqK_n, sqK_r, sqK_b, sqK_c,
  b_add, b_sub, b_mul, b_mulL, b_mulR, b_fdiv, b_mod, b_pow, b_addT, b_addL, addL_ok, b_repT, k_lt, k_le, k_gt, k_ge, k_eq, k_ne, k_isN, k_notN, q_int, q_bl, q_str, ofB_some, Option.map_some, tr_bl, tr_int, tr_non, tr_tup, tr_loc, trK_ok, td_bl, td_int, td_tup, i_tup, i_rls, i_loc, idxL_ok, okV_some, at0, at1, at2, at3, at_m1, tupK_ok, lstK_ok, negK_int, p_abs, p_int, p_intB, p_lenT, p_lenR, p_lenL, lenL_ok, p_max, p_min, p_tupT, p_tupL, tupL_ok, p_lstT, p_lstL, lstL_ok, isD_ok, m_app, appL_ok, m_pop, popL_ok, m_rev, revL_ok, recv_ok, recvL_ok, set_loc, setL_ok, setI_ok, new_eq, Bool.not_true, Bool.not_false, if_true, eq_self, decide_true, decide_false,
  List.set_cons_zero, List.set_cons_succ, List.getElem?_cons_zero, List.getElem?_cons_succ, List.length_cons, List.length_nil, Option.some.injEq, *])
local macro_rules | `(tactic| walk_at "evs") => `(tactic| simp (config := { maxSteps := 3000000 }) (disch := first | assumption | omega | exact ⟨by omega, by omega⟩ | exact ⟨⟨by omega, by omega⟩, ⟨by omega, by omega⟩⟩ | exact Nat.le_of_ble_eq_true rfl | decide) only [bnd_ok, bnd_bad, binJ_eq, binK_eq, notK_eq, cmpJ_eq, cmpK_eq, idxJ_eq, idxK_eq, calJ_eq, clkJ_eq, clkK_eq, priJ_eq, isiJ_eq, metJ_eq, metI_t, metK_eq, lcJ_eq, lcK_eq, conJ_eq, conK_eq, andJ_eq, orJ_eq, rg2J_eq, nxtK_eq, setI1_eq, setI2_eq, setI3_eq, retK_eq,  vE_var, varK_ok, vE_int, vE_bl, vE_non, vE_str, vE_tup, vE_lst, vE_bin, vE_neg, vE_not, vE_and, vE_or, vE_cmp, vE_ite, brE_t, brE_f, vE_idx, vE_slc, vE_call, vE_callk, vE_prim, vE_isin, vE_meth, vE_lc, vEs_nil, vEs_cons, vA_one, vA_cons, vO_one, vO_cons, andK_t, andK_f, orK_t, orK_f, vT_nil, vT_cons, vI_seq, seqK_tup, seqK_rls, seqK_loc, seqL_ok, vI_range1, rg1_int, vI_range2, rg2_int,
  xS_asg, asgK_nm, asgT_nm, asgT_tp2, asgT_tp3, asgK_tp2, asgK_tp3, xS_par, parK_2, parK_3, xS_setS, xS_aug, augV_ok, augK_add, augK_sub, xS_expr, xS_ret, xS_retN, xS_ite, brS_t, brS_f, xS_wh, whB_t, whB_f, whK_n, whK_c, whK_b, whK_r, xS_fo, foT_some, foK_n, foK_c, foK_b, foK_r, xS_brk, xS_cont, xS_pass, xSs_nil, xSs_cons, sqK_n, sqK_r, sqK_b, sqK_c,
  b_add, b_sub, b_mul, b_mulL, b_mulR, b_fdiv, b_mod, b_pow, b_addT, b_addL, addL_ok, b_repT, k_lt, k_le, k_gt, k_ge, k_eq, k_ne, k_isN, k_notN, q_int, q_bl, q_str, ofB_some, Option.map_some, tr_bl, tr_int, tr_non, tr_tup, tr_loc, trK_ok, td_bl, td_int, td_tup, i_tup, i_rls, i_loc, idxL_ok, okV_some, at0, at1, at2, at3, at_m1, tupK_ok, lstK_ok, negK_int, p_abs, p_int, p_intB, p_lenT, p_lenR, p_lenL, lenL_ok, p_max, p_min, p_tupT, p_tupL, tupL_ok, p_lstT, p_lstL, lstL_ok, isD_ok, m_app, appL_ok, m_pop, popL_ok, m_rev, revL_ok, recv_ok, recvL_ok, set_loc, setL_ok, setI_ok, new_eq, Bool.not_true, Bool.not_false, if_true, eq_self, decide_true, decide_false,
  List.set_cons_zero, List.set_cons_succ, List.getElem?_cons_zero, List.getElem?_cons_succ, List.length_cons, List.length_nil, Option.some.injEq, List.cons_append, List.nil_append, List.append_assoc, Nat.reduceAdd, st_get, st_get0, st_set, st_set0, List.length_append, Nat.add_zero, Nat.zero_add, *])

/-! ### the samples -/
def FinS (n : Nat) (l : Nat) (r : Res (SX.Flow × SX.Env)) : Prop := ∃ rs Sb G env, r = .ok (.ret (.tup (rs.map .int)), env) (Sb ++ G) ∧ rs ≠ [] ∧ rs.length ≤ 60 ∧ (∀ x ∈ rs, Rg x) ∧ Bag Sb l ∧ Sb.length = n
theorem fin_lc (n : Nat) (l : Nat) (lo hi k w : Int) (hq : 0 < lo ∧ lo ≤ hi ∧ hi ≤ 10000) (hk : 1 ≤ k ∧ k ≤ 60) (elt : E) (rest : Ss) (N : Nat) (Sb G : Store) (hB : Bag Sb l) (hN : Sb.length = n)
    (step : ∀ (i : Int) (Sb G : Store), 0 ≤ i → Bag Sb l → Sb.length = n → ∃ x Sb' G', evE (callN P N) elt [some (.loc l), some (.int lo), some (.int hi), some (.int k), some (.int w), some (.int i)] (Sb ++ G) = .ok (.int x) (Sb' ++ G') ∧ (lo ≤ x ∧ x ≤ hi) ∧ Bag Sb' l ∧ Sb'.length = n) :
    FinS n l (exSs (callN P N) (.cons (.ret (.prim .tuple (.cons (.lc elt (.nm 5) (.range1 (.var 3)) .nil [5]) .nil))) rest) [some (.loc l), some (.int lo), some (.int hi), some (.int k), some (.int w), none] (Sb ++ G)) := by
  have L0 : LINE = 16777216 := rfl
  obtain ⟨xs, S', a, b, c, Sb', G', rfl, e1, e2⟩ := lc_eff (callN P N) [some (.loc l), some (.int lo), some (.int hi), some (.int k), some (.int w), none] (.nm 5) [5] elt ⟨rngK 0 k, none⟩ (fun S => ∃ Sb G, S = Sb ++ G ∧ Bag Sb l ∧ Sb.length = n) (fun x => lo ≤ x ∧ x ≤ hi) (fun s _ => here_none s _) (rngK 0 k) [] (Sb ++ G) ⟨Sb, G, rfl, hB, hN⟩ (by rw [rng_len]; simp only [List.length_nil]; omega) (fun d hd S ⟨Sb, G, hS, h1, h2⟩ => by
    obtain ⟨i, rfl, hi0, hi1⟩ := rng_mem hd
    obtain ⟨x, Sb', G', s1, s2, s3, s4⟩ := step i Sb G hi0 h1 h2
    subst hS
    exact ⟨_, x, Sb' ++ G', rfl, s1, s2, Sb', G', rfl, s3, s4⟩)
  rw [rng_len] at b
  refine ⟨xs, Sb', G' ++ [.lst (xs.map .int)], [some (.loc l), some (.int lo), some (.int hi), some (.int k), some (.int w), none], ?_, ?_, by omega, ?_, e1, e2⟩
  · have hr : R62 k := ⟨by omega, by omega⟩
    rw [List.nil_append] at a
    have hx : (Sb' ++ G' ++ [SO.lst (xs.map .int)])[(Sb' ++ G').length]? = some (.lst (xs.map .int)) := by rw [st_get0]; rfl
    clear step b c e1 e2 hB hN
    rw [← List.append_assoc]
    walk_at "ev*"
  · intro z
    subst z
    simp only [List.length_nil] at b
    omega
  · intro x hx
    have := c x hx
    exact ⟨by omega, by omega⟩
theorem ite_ret {F : Fns} {c : E} {s : SX.St} {ss rest : Ss} {env : SX.Env} {S : Store} {Q : Res (SX.Flow × SX.Env) → Prop} (h : truR (evE F c env S) = .ok true S) (hr : ∀ r, exSs F (.cons s .nil) env S = r → (∃ d e S', r = .ok (.ret d, e) S') ∧ Q r) : Q (exSs F (.cons (.ite c (.cons s .nil) ss) rest) env S) := by
  obtain ⟨⟨d, e, S', he⟩, q⟩ := hr _ rfl
  rw [xSs_cons, xS_ite, h, bnd_ok, brS_t]
  rw [he] at q ⊢
  rw [bnd_ok, sqK_r]
  exact q
theorem fin_ret {n l : Nat} {r : Res (SX.Flow × SX.Env)} (h : FinS n l r) : (∃ d e S', r = .ok (.ret d, e) S') := by
  obtain ⟨rs, Sb, G, env, h, _⟩ := h
  exact ⟨_, _, _, h⟩
theorem e_samples (n : Nat) (Sb G : Store) (l : Nat) (hB : Bag Sb l) : ∃ rs Sb' G', callN P (n + 5) 23 [.loc l] (Sb ++ G) = .ok (.tup (rs.map .int)) (Sb' ++ G') ∧ rs ≠ [] ∧ rs.length ≤ 60 ∧ (∀ x ∈ rs, Rg x) ∧ Bag Sb' l ∧ Sb'.length = Sb.length := by
  rw [callN_eq (n + 4) _ _ (fd := ⟨1, 6, b__law_samples, false⟩) rfl rfl (Nat.le_of_ble_eq_true rfl)]
  suffices H : FinS Sb.length l (exSs (callN P (n + 4)) b__law_samples [some (.loc l), none, none, none, none, none] (Sb ++ G)) by
    obtain ⟨rs, Sb', G', env, h, h2⟩ := H
    exact ⟨rs, Sb', G', end_any h rfl, h2⟩
  unfold b__law_samples
  obtain ⟨r1, m1, Sa, Sb1, G1, e0, e1, a1, b1, c1, B1, N1⟩ := dp_is dr13 pk14 (n + 4) (by omega) l [5, 40, 10000] [.int 5, .int 40, .int 10000] rfl Sb G hB (by simp) (by simp) (by simp)
  have f1 : r1 < 10000 := by simp only [List.mem_cons, List.not_mem_nil, or_false] at b1; omega
  refine seq_ex [some (.loc l), some (.int (1 + r1)), none, none, none, none] (Sb1 ++ G1) (by clear b1; walk_at "ev*") ?_
  clear e0 e1 b1 c1
  obtain ⟨r2, m2, Sa, Sb2, G2, e0, e2, a2, b2, c2, B2, N2⟩ := dp_is dr13 pk14 (n + 4) (by omega) l [3, 30, 10000] [.int 3, .int 30, .int 10000] rfl Sb1 G1 B1 (by simp) (by simp) (by simp)
  clear b2 c2
  generalize hlo : 1 + r1 = lo
  refine seq_ex [some (.loc l), some (.int lo), some (.int (min 10000 (lo + r2))), none, none, none] (Sb2 ++ G2) (by clear hlo; walk_at "ev*") ?_
  clear e0 e2
  generalize hhi : min 10000 (lo + r2) = hi
  have q1 : 0 < lo ∧ lo ≤ hi ∧ hi ≤ 10000 := by omega
  clear hlo hhi a1 a2 f1
  obtain ⟨r3, Sb3, e3, a3, b3, B3, N3⟩ := draw_is dr13 (n + 4) (by omega) l 60 Sb2 G2 B2 (by decide) (by decide)
  obtain ⟨r4, Sb4, e4, a4, b4, B4, N4⟩ := draw_is dr13 (n + 4) (by omega) l 20 Sb3 G2 B3 (by decide) (by decide)
  obtain ⟨k, Sb5, G5, e5, a5, B5, N5⟩ := picki_is pk14 (n + 4) (by omega) l [1, 2, 3, 60, 1 + r3, 1 + r4] [.int 1, .int 2, .int 3, .int 60, .int (1 + r3), .int (1 + r4)] rfl Sb4 G2 B4 (by simp) (by simp)
  have f3 : 1 ≤ k ∧ k ≤ 60 := by simp only [List.mem_cons, List.not_mem_nil, or_false] at a5; omega
  refine seq_ex [some (.loc l), some (.int lo), some (.int hi), some (.int k), none, none] (Sb5 ++ G5) (by clear a5 a3 a4 b3 b4; walk_at "ev*") ?_
  clear e3 e4 e5 a3 a4 b3 b4 a5
  obtain ⟨w, Sb6, e6, a6, b6, B6, N6⟩ := draw_is dr13 (n + 4) (by omega) l 4 Sb5 G5 B5 (by decide) (by decide)
  refine seq_ex [some (.loc l), some (.int lo), some (.int hi), some (.int k), some (.int w), none] (Sb6 ++ G5) (by walk_at "ev*") ?_
  clear e6
  have hN : Sb6.length = Sb.length := by omega
  clear B1 B2 B3 B4 B5 N1 N2 N3 N4 N5 N6 hB
  by_cases w0 : w = 0
  · subst w0
    refine ite_ret (Q := FinS Sb.length l) (by walk_at "ev") ?_
    rintro _ rfl
    have := fin_lc Sb.length l lo hi k 0 q1 f3 (.var 1) .nil (n + 4) Sb6 G5 B6 hN (fun i Sb G _ hB hN => ⟨lo, Sb, G, by walk_at "ev", by omega, hB, hN⟩)
    exact ⟨fin_ret this, this⟩
  refine seq_ex [some (.loc l), some (.int lo), some (.int hi), some (.int k), some (.int w), none] (Sb6 ++ G5) (by walk_at "ev*") ?_
  by_cases w1 : w = 1
  · subst w1
    refine ite_ret (Q := FinS Sb.length l) (by walk_at "ev") ?_
    rintro _ rfl
    have := fin_lc Sb.length l lo hi k 1 q1 f3 (.var 2) .nil (n + 4) Sb6 G5 B6 hN (fun i Sb G _ hB hN => ⟨hi, Sb, G, by walk_at "ev", by omega, hB, hN⟩)
    exact ⟨fin_ret this, this⟩
  refine seq_ex [some (.loc l), some (.int lo), some (.int hi), some (.int k), some (.int w), none] (Sb6 ++ G5) (by walk_at "ev*") ?_
  by_cases w2 : w = 2
  · subst w2
    refine ite_ret (Q := FinS Sb.length l) (by walk_at "ev") ?_
    rintro _ rfl
    have := fin_lc Sb.length l lo hi k 2 q1 f3 (.idx (.lst (.cons (.var 1) (.cons (.var 2) .nil))) (.bin .mod (.prim .int (.cons (.var 5) .nil)) (.cint 2))) .nil (n + 4) Sb6 G5 B6 hN (fun i Sb G _ hB hN => by
      refine ⟨if i % 2 = 0 then lo else hi, Sb, G ++ [.lst [.int lo, .int hi]], ?_, by split <;> omega, hB, hN⟩
      have hx : (Sb ++ G ++ [SO.lst [.int lo, .int hi]])[(Sb ++ G).length]? = some (.lst [.int lo, .int hi]) := by rw [st_get0]; rfl
      rw [← List.append_assoc]
      have : i % 2 = 0 ∨ i % 2 = 1 := by omega
      rcases this with h | h
      · rw [if_pos h]
        walk_at "ev*"
      · rw [if_neg (by omega)]
        walk_at "ev*")
    exact ⟨fin_ret this, this⟩
  refine seq_ex [some (.loc l), some (.int lo), some (.int hi), some (.int k), some (.int w), none] (Sb6 ++ G5) (by walk_at "ev*") ?_
  refine fin_lc Sb.length l lo hi k w q1 f3 _ .nil (n + 4) Sb6 G5 B6 hN (fun i Sb G _ hB hN => ?_)
  obtain ⟨r, Sb', e, a, b, B', N'⟩ := draw_is dr13 (n + 4) (by omega) l (hi - lo + 1) Sb G hB (by omega) (by omega)
  exact ⟨lo + r, Sb', G, by walk_at "ev*", by omega, B', by omega⟩
/-! ### the last pair -/
def lastOf : List Int → Fr × Fr
  | [] => ((0, 1), (0, 1))
  | r :: rs => lastF (firstF r) rs
theorem run_last : ∀ (rs : List Int) (p : Fr × Fr), ∃ pre, p :: runF p rs = pre ++ [lastF p rs]
  | [], p => ⟨[], rfl⟩
  | r :: rs, p => by
    obtain ⟨pre, h⟩ := run_last rs (stepF p r)
    exact ⟨p :: pre, (congrArg (List.cons p) h).trans rfl⟩
theorem at_last {rs : List Int} (h : rs ≠ []) : atI ((lensF rs).map pairD) (-1) = some (pairD (lastOf rs)) := by
  cases rs with
  | nil => exact absurd rfl h
  | cons r rs =>
    obtain ⟨pre, e⟩ := run_last rs (firstF r)
    show atI ((firstF r :: runF (firstF r) rs).map pairD) (-1) = _
    rw [e, List.map_append]
    exact at_m1 _ _
theorem ok_last : ∀ (rs : List Int) (k : Nat) (p : Fr × Fr), OkP k p → (∀ r ∈ rs, Rg r) → OkP (k + rs.length) (lastF p rs)
  | [], k, p, h, _ => h
  | r :: rs, k, p, h, hr => by
    have := ok_last rs (k + 1) (stepF p r) (lv_parts h (hr r (List.mem_cons_self ..))).2.2.2.2.2 (fun z hz => hr z (List.mem_cons_of_mem _ hz))
    rw [List.length_cons, show k + (rs.length + 1) = k + 1 + rs.length by omega]
    exact this
theorem ok_lastOf {rs : List Int} (h : rs ≠ []) (hl : rs.length ≤ 60) (hr : ∀ r ∈ rs, Rg r) : ∃ k, k ≤ 60 ∧ OkP k (lastOf rs) := by
  cases rs with
  | nil => exact absurd rfl h
  | cons r rs =>
    refine ⟨0 + rs.length, by simp only [List.length_cons] at hl; omega, ?_⟩
    exact ok_last rs 0 (firstF r) (ok_first (hr r (List.mem_cons_self ..))) (fun z hz => hr z (List.mem_cons_of_mem _ hz))
/-- what a timer takes -/
structure Tm (p : Fr) : Prop where
  ex : ∃ D V, 0 < D ∧ D < 2 ^ 1490 ∧ V < 2 ^ 1490 ∧ Fb D V p
theorem Tm.sm {p : Fr} (h : Tm p) : Sm p := by
  obtain ⟨D, V, h0, h1, h2, h3⟩ := h.ex
  exact h3.sm h0 (Nat.lt_of_lt_of_le h1 (pow_le_pow (by decide))) (Nat.lt_of_lt_of_le h2 (pow_le_pow (by decide)))
theorem Tm.four {p : Fr} (h : Tm p) : Sm (timesF (4, 1) p) := by
  obtain ⟨D, V, h0, h1, h2, h3⟩ := h.ex
  have l : Fb 1 4 (4, 1) := ⟨by decide, ⟨1, rfl⟩, by decide⟩
  have e : (2 : Nat) ^ 1500 = 2 ^ 10 * 2 ^ 1490 := by rw [← Nat.pow_add]
  refine (fb_times l h3).sm (by omega) ?_ ?_ <;> rw [e] <;> omega
theorem lv_tm {k : Nat} {p : Fr} (hp : Lv k p) (hk : k ≤ 100) : Tm p := by
  have h8 : 2 * 8 ^ k < 2 ^ 1490 := by
    have : 2 * 8 ^ k = 2 ^ (1 + 3 * k) := by rw [Nat.pow_add, Nat.pow_mul]
    rw [this]
    exact Nat.pow_lt_pow_right (by decide) (by omega)
  have h4 : 10000 * 4 ^ k < 2 ^ 1490 := by
    have e : 2 ^ 14 * 4 ^ k = 2 ^ (14 + 2 * k) := by rw [Nat.pow_add, Nat.pow_mul]
    have : 2 ^ (14 + 2 * k) < 2 ^ 1490 := Nat.pow_lt_pow_right (by decide) (by omega)
    have e5 : 10000 * 4 ^ k ≤ 2 ^ 14 * 4 ^ k := Nat.mul_le_mul_right _ (by decide)
    omega
  exact ⟨_, _, Nat.mul_pos (by decide) (Nat.pow_pos (by decide)), h8, h4, hp⟩
theorem low_tm {a b : Int} (h : 0 < b) (hb : b < 2 ^ 60) (ha : a.natAbs < 2 ^ 60) : Tm (lowF a b) := by
  have hbig : (2 : Nat) ^ 60 ≤ 2 ^ 1490 := pow_le_pow (by decide)
  refine ⟨b.natAbs, a.natAbs, by omega, by omega, by omega, fb_fr h ⟨1, by omega⟩ ?_⟩
  exact Nat.le_mul_of_pos_right _ (by omega)
theorem tim_ok {sm sp : Fr} {g : Int} (h1 : Tm sm) (h2 : Tm sp) (hg : g.natAbs < 2 ^ 60) : TimOk sm sp g := ⟨h1.sm, h2.sm, sm_of (by omega) (by decide) (by decide), h2.four⟩
theorem ok_tm {k : Nat} {p : Fr × Fr} (h : OkP k p) (hk : k ≤ 60) : Tm p.1 ∧ Tm p.2 := ⟨lv_tm h.a (by omega), lv_tm h.b (by omega)⟩
theorem e_least (n : Nat) (low high : Int) (m : Nat) (hm : 1 ≤ m ∧ m ≤ 60) (hl : Rg low) (g : Int) (hg : g.natAbs < 2 ^ 60) (S : Store) :
    callN P (n + 6) 11 [.int low, .int high, .int m, .int g] S = .ok (frD (timF (lastOf (List.replicate m low)).1 (lastOf (List.replicate m low)).2 g)) S := by
  rw [callN_eq (n + 5) _ _ (fd := ⟨4, 6, b_least_length, true⟩) rfl rfl (Nat.le_of_ble_eq_true rfl)]
  have hne : List.replicate m low ≠ [] := fun z => by
    have := congrArg List.length z
    simp only [List.length_replicate, List.length_nil] at this
    omega
  have hr : ∀ r ∈ List.replicate m low, Rg r := fun r h => by rw [List.mem_replicate] at h; rw [h.2]; exact hl
  have hlen : (List.replicate m low).length ≤ 60 := by rw [List.length_replicate]; exact hm.2
  obtain ⟨k, hk, ok⟩ := ok_lastOf hne hlen hr
  have tt := ok_tm ok hk
  have hat := at_last hne
  have x1 := e_lengths n (List.replicate m low) hne (by omega) hr S
  have x2 : callN P (n + 5) 9 [frD (lastOf (List.replicate m low)).1, frD (lastOf (List.replicate m low)).2, .int g] S = .ok (frD (timF (lastOf (List.replicate m low)).1 (lastOf (List.replicate m low)).2 g)) S := e_lengthof (n + 1) _ _ g (tim_ok tt.1 tt.2 hg) S
  have hfl : (List.replicate (m : Int).toNat [D.int low]).flatten = (List.replicate m low).map .int := by
    rw [rep_flat, List.map_replicate]
    rfl
  generalize List.replicate m low = rs at hat x1 x2 hfl
  refine end_pure (env := [some (.int low), some (.int high), some (.int m), some (.int g), some (frD (lastOf rs).1), some (frD (lastOf rs).2)]) ?_ rfl rfl
  show exSs (callN P (n + 5)) b_least_length [some (.int low), some (.int high), some (.int m), some (.int g), none, none] S = _
  unfold b_least_length
  have hrep : [D.int low] ≠ [] ∧ 1 ≤ (m : Int) ∧ (m : Int) ≤ 1000 ∧ [D.int low].length ≤ 1000 := ⟨by simp, by omega, by omega, by simp⟩
  have t : asgK [some (.int low), some (.int high), some (.int m), some (.int g), none, none] (.tp (.cons (.nm 4) (.cons (.nm 5) .nil))) (pairD (lastOf rs)) S = .ok (.next, [some (.int low), some (.int high), some (.int m), some (.int g), some (frD (lastOf rs).1), some (frD (lastOf rs).2)]) S := rfl
  clear hne hr hlen hk ok tt hm hl hg
  have hb := b_repT (S := S) hrep
  rw [hfl] at hb
  clear hfl
  walk_at "ev*"
end
end LW
namespace LW
open PySem PySem.Spec PyProof.Rows L2 SX
noncomputable section
open Classical
local macro_rules | `(tactic| walk_at "ev") => `(tactic| simp (config := { maxSteps := 3000000 }) (disch := first | assumption | omega | exact ⟨by omega, by omega⟩ | exact ⟨⟨by omega, by omega⟩, ⟨by omega, by omega⟩⟩ | exact Nat.le_of_ble_eq_true rfl | decide) only [bnd_ok, bnd_bad, binJ_eq, binK_eq, notK_eq, cmpJ_eq, cmpK_eq, idxJ_eq, idxK_eq, calJ_eq, clkJ_eq, clkK_eq, priJ_eq, isiJ_eq, metJ_eq, metI_t, metK_eq, lcJ_eq, lcK_eq, conJ_eq, conK_eq, andJ_eq, orJ_eq, rg2J_eq, nxtK_eq, setI1_eq, setI2_eq, setI3_eq, retK_eq,  vE_var, varK_ok, vE_int, vE_bl, vE_non, vE_str, vE_tup, vE_lst, vE_bin, vE_neg, vE_not, vE_and, vE_or, vE_cmp, vE_ite, brE_t, brE_f, vE_idx, vE_slc, vE_call, vE_callk, vE_prim, vE_isin, vE_meth, vE_lc, vEs_nil, vEs_cons, vA_one, vA_cons, vO_one, vO_cons, andK_t, andK_f, orK_t, orK_f, vT_nil, vT_cons, vI_seq, seqK_tup, seqK_rls, seqK_loc, seqL_ok, vI_range1, rg1_int, vI_range2, rg2_int,
  xS_asg, asgK_nm, asgT_nm, asgT_tp2, asgT_tp3, asgK_tp2, asgK_tp3, xS_par, parK_2, parK_3, xS_setS, xS_aug, augV_ok, augK_add, augK_sub, xS_expr, xS_ret, xS_retN, xS_ite, brS_t, brS_f, xS_wh, whB_t, whB_f, whK_n, whK_c, whK_b, whK_r, xS_fo, foT_some, foK_n, foK_c, foK_b, foK_r, xS_brk, xS_cont, xS_pass, xSs_nil, xSs_cons, sqK_n, sqK_r, sqK_b, sqK_c,
  b_add, b_sub, b_mul, b_mulL, b_mulR, b_fdiv, b_mod, b_pow, b_addT, b_addL, addL_ok, b_repT, k_lt, k_le, k_gt, k_ge, k_eq, k_ne, k_isN, k_notN, q_int, q_bl, q_str, ofB_some, Option.map_some, tr_bl, tr_int, tr_non, tr_tup, tr_loc, trK_ok, td_bl, td_int, td_tup, i_tup, i_rls, i_loc, idxL_ok, okV_some, at0, at1, at2, at3, at_m1, tupK_ok, lstK_ok, negK_int, p_abs, p_int, p_intB, p_lenT, p_lenR, p_lenL, lenL_ok, p_max, p_min, p_tupT, p_tupL, tupL_ok, p_lstT, p_lstL, lstL_ok, isD_ok, m_app, appL_ok, m_pop, popL_ok, m_rev, revL_ok, recv_ok, recvL_ok, set_loc, setL_ok, setI_ok, new_eq, Bool.not_true, Bool.not_false, if_true, eq_self, decide_true, decide_false,
  List.set_cons_zero, List.set_cons_succ, List.getElem?_cons_zero, List.getElem?_cons_succ, List.length_cons, List.length_nil, Option.some.injEq])
local macro_rules | `(tactic| walk_at "ev*") => `(tactic| simp (config := { maxSteps := 3000000 }) (disch := first | assumption | omega | exact ⟨by omega, by omega⟩ | exact ⟨⟨by omega, by omega⟩, ⟨by omega, by omega⟩⟩ | exact Nat.le_of_ble_eq_true rfl | decide) only [bnd_ok, bnd_bad, binJ_eq, binK_eq, notK_eq, cmpJ_eq, cmpK_eq, idxJ_eq, idxK_eq, calJ_eq, clkJ_eq, clkK_eq, priJ_eq, isiJ_eq, metJ_eq, metI_t, metK_eq, lcJ_eq, lcK_eq, conJ_eq, conK_eq, andJ_eq, orJ_eq, rg2J_eq, nxtK_eq, setI1_eq, setI2_eq, setI3_eq, retK_eq,  vE_var, varK_ok, vE_int, vE_bl, vE_non, vE_str, vE_tup, vE_lst, vE_bin, vE_neg, vE_not, vE_and, vE_or, vE_cmp, vE_ite, brE_t, brE_f, vE_idx, vE_slc, vE_call, vE_callk, vE_prim, vE_isin, vE_meth, vE_lc, vEs_nil, vEs_cons, vA_one, vA_cons, vO_one, vO_cons, andK_t, andK_f, orK_t, orK_f, vT_nil, vT_cons, vI_seq, seqK_tup, seqK_rls, seqK_loc, seqL_ok, vI_range1, rg1_int, vI_range2, rg2_int,
  xS_asg, asgK_nm, asgT_nm, asgT_tp2, asgT_tp3, asgK_tp2, asgK_tp3, xS_par, parK_2, parK_3, xS_setS, xS_aug, augV_ok, augK_add, augK_sub, xS_expr, xS_ret, xS_retN, xS_ite, brS_t, brS_f, xS_wh, whB_t, whB_f, whK_n, whK_c, whK_b, whK_r, xS_fo, foT_some, foK_n, foK_c, foK_b, foK_r, xS_brk, xS_cont, xS_pass, xSs_nil, xSs_cons, sqK_n, sqK_r, sqK_b, sqK_c,
  b_add, b_sub, b_mul, b_mulL, b_mulR, b_fdiv, b_mod, b_pow, b_addT, b_addL, addL_ok, b_repT, k_lt, k_le, k_gt, k_ge, k_eq, k_ne, k_isN, k_notN, q_int, q_bl, q_str, ofB_some, Option.map_some, tr_bl, tr_int, tr_non, tr_tup, tr_loc, trK_ok, td_bl, td_int, td_tup, i_tup, i_rls, i_loc, idxL_ok, okV_some, at0, at1, at2, at3, at_m1, tupK_ok, lstK_ok, negK_int, p_abs, p_int, p_intB, p_lenT, p_lenR, p_lenL, lenL_ok, p_max, p_min, p_tupT, p_tupL, tupL_ok, p_lstT, p_lstL, lstL_ok, isD_ok, m_app, appL_ok, m_pop, popL_ok, m_rev, revL_ok, recv_ok, recvL_ok, set_loc, setL_ok, setI_ok, new_eq, Bool.not_true, Bool.not_false, if_true, eq_self, decide_true, decide_false,
  List.set_cons_zero, List.set_cons_succ, List.getElem?_cons_zero, List.getElem?_cons_succ, List.length_cons, List.length_nil, Option.some.injEq, *])
local macro_rules | `(tactic| walk_at "evs") => `(tactic| simp (config := { maxSteps := 3000000 }) (disch := first | assumption | omega | exact ⟨by omega, by omega⟩ | exact ⟨⟨by omega, by omega⟩, ⟨by omega, by omega⟩⟩ | exact Nat.le_of_ble_eq_true rfl | decide) only [bnd_ok, bnd_bad, binJ_eq, binK_eq, notK_eq, cmpJ_eq, cmpK_eq, idxJ_eq, idxK_eq, calJ_eq, clkJ_eq, clkK_eq, priJ_eq, isiJ_eq, metJ_eq, metI_t, metK_eq, lcJ_eq, lcK_eq, conJ_eq, conK_eq, andJ_eq, orJ_eq, rg2J_eq, nxtK_eq, setI1_eq, setI2_eq, setI3_eq, retK_eq,  vE_var, varK_ok, vE_int, vE_bl, vE_non, vE_str, vE_tup, vE_lst, vE_bin, vE_neg, vE_not, vE_and, vE_or, vE_cmp, vE_ite, brE_t, brE_f, vE_idx, vE_slc, vE_call, vE_callk, vE_prim, vE_isin, vE_meth, vE_lc, vEs_nil, vEs_cons, vA_one, vA_cons, vO_one, vO_cons, andK_t, andK_f, orK_t, orK_f, vT_nil, vT_cons, vI_seq, seqK_tup, seqK_rls, seqK_loc, seqL_ok, vI_range1, rg1_int, vI_range2, rg2_int,
  xS_asg, asgK_nm, asgT_nm, asgT_tp2, asgT_tp3, asgK_tp2, asgK_tp3, xS_par, parK_2, parK_3, xS_setS, xS_aug, augV_ok, augK_add, augK_sub, xS_expr, xS_ret, xS_retN, xS_ite, brS_t, brS_f, xS_wh, whB_t, whB_f, whK_n, whK_c, whK_b, whK_r, xS_fo, foT_some, foK_n, foK_c, foK_b, foK_r, xS_brk, xS_cont, xS_pass, xSs_nil, xSs_cons, sqK_n, sqK_r, sqK_b, sqK_c,
  b_add, b_sub, b_mul, b_mulL, b_mulR, b_fdiv, b_mod, b_pow, b_addT, b_addL, addL_ok, b_repT, k_lt, k_le, k_gt, k_ge, k_eq, k_ne, k_isN, k_notN, q_int, q_bl, q_str, ofB_some, Option.map_some, tr_bl, tr_int, tr_non, tr_tup, tr_loc, trK_ok, td_bl, td_int, td_tup, i_tup, i_rls, i_loc, idxL_ok, okV_some, at0, at1, at2, at3, at_m1, tupK_ok, lstK_ok, negK_int, p_abs, p_int, p_intB, p_lenT, p_lenR, p_lenL, lenL_ok, p_max, p_min, p_tupT, p_tupL, tupL_ok, p_lstT, p_lstL, lstL_ok, isD_ok, m_app, appL_ok, m_pop, popL_ok, m_rev, revL_ok, recv_ok, recvL_ok, set_loc, setL_ok, setI_ok, new_eq, Bool.not_true, Bool.not_false, if_true, eq_self, decide_true, decide_false,
  List.set_cons_zero, List.set_cons_succ, List.getElem?_cons_zero, List.getElem?_cons_succ, List.length_cons, List.length_nil, Option.some.injEq, List.cons_append, List.nil_append, List.append_assoc, Nat.reduceAdd, st_get, st_get0, st_set, st_set0, List.length_append, Nat.add_zero, Nat.zero_add, *])

/-! ### the law -/
def lawI : Ss := .cons (.asg (.nm 8) (.ite (.cmp .gt (.var 2) (.cint 0)) (.call 9 (.cons (.var 6) (.cons (.var 7) (.cons (.var 5) .nil)))) (.callk 9 .nil (.cons (.var 5) (.cons (.var 7) (.cons (.var 6) .nil))) [2, 1, 0]))) (.cons (.ite (.not (.call 15 (.cons (.var 8) (.cons (.call 22 (.cons (.var 6) (.cons (.var 7) (.cons (.var 5) .nil)))) .nil)))) (.cons (.ret (.cbl false)) .nil) .nil) .nil)
def lawB : Ss := .cons (.asg (.nm 3) (.call 23 (.cons (.var 1) .nil))) (.cons (.asg (.nm 4) (.call 21 (.cons (.var 3) .nil))) (.cons (.ite (.not (.call 15 (.cons (.ite (.cmp .gt (.var 2) (.cint 0)) (.call 10 (.cons (.var 3) .nil)) (.callk 10 .nil (.cons (.var 3) .nil) [0])) (.cons (.var 4) .nil)))) (.cons (.ret (.cbl false)) .nil) .nil) (.cons (.asg (.nm 5) (.bin .add (.cint 1) (.call 13 (.cons (.var 1) (.cons (.call 14 (.cons (.var 1) (.cons (.lst (.cons (.cint 3) (.cons (.cint 30) (.cons (.cint 1000) .nil)))) .nil))) .nil))))) (.cons (.fo (.tp (.cons (.nm 6) (.cons (.nm 7) .nil))) (.seq (.lst (.cons (.idx (.var 4) (.cint 0)) (.cons (.idx (.var 4) (.neg (.cint 1))) (.cons (.tup (.cons (.idx (.idx (.var 4) (.neg (.cint 1))) (.cint 0)) (.cons (.tup (.cons (.cint 0) (.cons (.cint 1) .nil))) .nil))) (.cons (.tup (.cons (.call 17 (.cons (.call 13 (.cons (.var 1) (.cons (.cint 90) .nil))) (.cons (.bin .add (.cint 1) (.call 13 (.cons (.var 1) (.cons (.cint 9) .nil)))) .nil))) (.cons (.call 17 (.cons (.call 13 (.cons (.var 1) (.cons (.cint 90) .nil))) (.cons (.bin .add (.cint 1) (.call 13 (.cons (.var 1) (.cons (.cint 9) .nil)))) .nil))) .nil))) .nil)))))) lawI) (.cons (.asg (.tp (.cons (.nm 9) (.cons (.nm 10) .nil))) (.tup (.cons (.idx (.var 3) (.cint 0)) (.cons (.prim .len (.cons (.var 3) .nil)) .nil)))) (.cons (.asg (.nm 11) (.prim .min (.cons (.cint 10000) (.cons (.bin .add (.var 9) (.call 13 (.cons (.var 1) (.cons (.call 14 (.cons (.var 1) (.cons (.lst (.cons (.cint 60) (.cons (.cint 10000) .nil))) .nil))) .nil)))) .nil)))) (.cons (.asg (.nm 12) (.idx (.call 21 (.cons (.prim .tuple (.cons (.lc (.var 9) (.nm 13) (.range1 (.var 10)) .nil [13]) .nil)) .nil)) (.neg (.cint 1)))) (.cons (.asg (.nm 8) (.ite (.cmp .gt (.var 2) (.cint 0)) (.call 11 (.cons (.var 9) (.cons (.var 11) (.cons (.var 10) (.cons (.var 5) .nil))))) (.callk 11 .nil (.cons (.var 5) (.cons (.var 10) (.cons (.var 11) (.cons (.var 9) .nil)))) [3, 2, 1, 0]))) (.cons (.ite (.not (.call 15 (.cons (.var 8) (.cons (.call 22 (.cons (.idx (.var 12) (.cint 0)) (.cons (.idx (.var 12) (.cint 1)) (.cons (.var 5) .nil)))) .nil)))) (.cons (.ret (.cbl false)) .nil) .nil) .nil)))))))))
theorem law_eq : b_law = .cons (.asg (.nm 1) (.call 12 (.cons (.var 0) .nil))) (.cons (.fo (.nm 2) (.range1 (.cint 5)) lawB) (.cons (.ret (.cbl true)) .nil)) := rfl
theorem plains_pairs : ∀ ps : List (Fr × Fr), plains (ps.map pairD) = true
  | [] => rfl
  | p :: ps => by
    rw [List.map_cons, plains, plains_pairs ps]
    rfl
theorem run_len : ∀ (rs : List Int) (p : Fr × Fr), (runF p rs).length = rs.length
  | [], _ => rfl
  | r :: rs, p => by rw [runF, List.length_cons, List.length_cons, run_len rs]
theorem lens_len (rs : List Int) : (lensF rs).length = rs.length := by
  cases rs with
  | nil => rfl
  | cons r rs => rw [lensF, List.length_cons, List.length_cons, run_len]
theorem same_fr (p : Fr) (S : Store) : callN P 29 15 [frD p, frD p] S = .ok (.bl true) S := sa15 1 27 (frD p) S rfl (Nat.le_refl _)
theorem same_list {rs : List Int} (h : rs.length ≤ 60) (S : Store) : callN P 29 15 [.tup ((lensF rs).map pairD), .tup ((lensF rs).map pairD)] S = .ok (.bl true) S := by
  refine sa15 3 25 _ S ?_ ?_
  · unfold SX.plain
    rw [plains_pairs, List.length_map, lens_len, Bool.true_and, decide_eq_true_eq]
    omega
  · unfold depD
    have := depDs_pairs (lensF rs)
    omega
theorem pm1 (x : D) : permD [0] ([] ++ [x]) = [x] := rfl
theorem pm3 (x y z : D) : permD [2, 1, 0] ([] ++ [x, y, z]) = [z, y, x] := rfl
theorem pm4 (x y z w : D) : permD [3, 2, 1, 0] ([] ++ [x, y, z, w]) = [w, z, y, x] := rfl
theorem inner (l : Nat) (lap g : Int) (hg : g.natAbs < 2 ^ 60) (S : Store) (w : Walk) (hw : w.here S) (o0 o3 o4 o9 o10 o11 o12 o13 : Option D) (items : List D) (hit : ∀ d ∈ items, ∃ p : Fr × Fr, d = pairD p ∧ Tm p.1 ∧ Tm p.2) (o6 o7 o8 : Option D) :
    ∃ o6' o7' o8', foS (callN P 29) (.tp (.cons (.nm 6) (.cons (.nm 7) .nil))) lawI w items [o0, some (.loc l), some (.int lap), o3, o4, some (.int g), o6, o7, o8, o9, o10, o11, o12, o13] S
      = .ok (.next, [o0, some (.loc l), some (.int lap), o3, o4, some (.int g), o6', o7', o8', o9, o10, o11, o12, o13]) S := by
  obtain ⟨e2, s2, a, rfl, o6', o7', o8', rfl⟩ := fo_inv (callN P 29) (.tp (.cons (.nm 6) (.cons (.nm 7) .nil))) lawI w (fun e s => s = S ∧ ∃ o6 o7 o8, e = [o0, some (.loc l), some (.int lap), o3, o4, some (.int g), o6, o7, o8, o9, o10, o11, o12, o13]) (fun e s h => by rw [h.1]; exact hw) items (fun d hd e s ⟨hs, o6, o7, o8, he⟩ => by
    subst hs
    subst he
    obtain ⟨p, rfl, t1, t2⟩ := hit d hd
    refine ⟨[o0, some (.loc l), some (.int lap), o3, o4, some (.int g), some (frD p.1), some (frD p.2), o8, o9, o10, o11, o12, o13], [o0, some (.loc l), some (.int lap), o3, o4, some (.int g), some (frD p.1), some (frD p.2), some (frD (timF p.1 p.2 g)), o9, o10, o11, o12, o13], s, rfl, ?_, rfl, _, _, _, rfl⟩
    have h9 : callN P 29 9 [frD p.1, frD p.2, .int g] s = .ok (frD (timF p.1 p.2 g)) s := e_lengthof 25 _ _ g (tim_ok t1 t2 hg) s
    have h22 : callN P 29 22 [frD p.1, frD p.2, .int g] s = .ok (frD (timF p.1 p.2 g)) s := e_timer 25 _ _ g (tim_ok t1 t2 hg) s
    have h15 := same_fr (timF p.1 p.2 g) s
    have q3 := pm3
    unfold lawI
    clear hit hw t1 t2 hg
    by_cases hlap : 0 < lap
    · walk_at "ev*"
    · walk_at "ev*") [o0, some (.loc l), some (.int lap), o3, o4, some (.int g), o6, o7, o8, o9, o10, o11, o12, o13] S ⟨rfl, _, _, _, rfl⟩
  exact ⟨o6', o7', o8', a⟩
def Inv (l : Nat) (e : SX.Env) (s : Store) : Prop := ∃ o0 o2 o3 o4 o5 o6 o7 o8 o9 o10 o11 o12 o13 Sb G, e = [o0, some (.loc l), o2, o3, o4, o5, o6, o7, o8, o9, o10, o11, o12, o13] ∧ s = Sb ++ G ∧ Bag Sb l
def Fin (l : Nat) (r : Res (SX.Flow × SX.Env)) : Prop := ∃ e s, r = .ok (.next, e) s ∧ Inv l e s
theorem turn (l : Nat) (lap : Int) (Sb G : Store) (hB : Bag Sb l) (o0 o3 o4 o5 o6 o7 o8 o9 o10 o11 o12 o13 : Option D) :
    Fin l (exSs (callN P 29) lawB [o0, some (.loc l), some (.int lap), o3, o4, o5, o6, o7, o8, o9, o10, o11, o12, o13] (Sb ++ G)) := by
  unfold lawB
  obtain ⟨rs, Sb1, G1, e1, hne, hl, hr, B1, N1⟩ := e_samples 24 Sb G l hB
  have e1' : callN P 29 23 [.loc l] (Sb ++ G) = .ok (.tup (rs.map .int)) (Sb1 ++ G1) := e1
  refine seq_ex [o0, some (.loc l), some (.int lap), some (.tup (rs.map .int)), o4, o5, o6, o7, o8, o9, o10, o11, o12, o13] (Sb1 ++ G1) (by clear hr; walk_at "ev*") ?_
  clear e1 e1'
  have due : ∀ S, callN P 29 21 [.tup (rs.map .int)] S = .ok (.tup ((lensF rs).map pairD)) S := fun S => e_lawlen 24 rs hne (by omega) hr S
  refine seq_ex [o0, some (.loc l), some (.int lap), some (.tup (rs.map .int)), some (.tup ((lensF rs).map pairD)), o5, o6, o7, o8, o9, o10, o11, o12, o13] (Sb1 ++ G1) (by clear hr; walk_at "ev*") ?_
  have got : ∀ S, callN P 29 10 [.tup (rs.map .int)] S = .ok (.tup ((lensF rs).map pairD)) S := fun S => e_lengths 24 rs hne (by omega) hr S
  have same := same_list hl (Sb1 ++ G1)
  refine seq_ex [o0, some (.loc l), some (.int lap), some (.tup (rs.map .int)), some (.tup ((lensF rs).map pairD)), o5, o6, o7, o8, o9, o10, o11, o12, o13] (Sb1 ++ G1) (by
    clear hr due
    have q1 := pm1
    by_cases hlap : 0 < lap
    · walk_at "ev*"
    · walk_at "ev*") ?_
  clear got same due
  obtain ⟨r, m, Sa, Sb2, G2, e0, e1, a1, b1, c1, B2, N2⟩ := dp_is dr13 pk14 29 (by omega) l [3, 30, 1000] [.int 3, .int 30, .int 1000] rfl Sb1 G1 B1 (by simp) (by simp) (by simp)
  have hg : (1 + r).natAbs < 2 ^ 60 := by simp only [List.mem_cons, List.not_mem_nil, or_false] at b1; omega
  generalize hgg : 1 + r = g at hg
  refine seq_ex [o0, some (.loc l), some (.int lap), some (.tup (rs.map .int)), some (.tup ((lensF rs).map pairD)), some (.int g), o6, o7, o8, o9, o10, o11, o12, o13] (Sb2 ++ G2) (by clear hr hg b1; walk_at "ev*") ?_
  clear e0 e1 a1 b1 c1 hgg B1 N1 N2 hB Sb1 G1 Sa
  -- the four pairs
  obtain ⟨d1, Sb3, e1, a1, b1, B3, -⟩ := draw_is dr13 29 (by omega) l 90 Sb2 G2 B2 (by decide) (by decide)
  obtain ⟨d2, Sb4, e2, a2, b2, B4, -⟩ := draw_is dr13 29 (by omega) l 9 Sb3 G2 B3 (by decide) (by decide)
  obtain ⟨d3, Sb5, e3, a3, b3, B5, -⟩ := draw_is dr13 29 (by omega) l 90 Sb4 G2 B4 (by decide) (by decide)
  obtain ⟨d4, Sb6, e4, a4, b4, B6, -⟩ := draw_is dr13 29 (by omega) l 9 Sb5 G2 B5 (by decide) (by decide)
  have big : (2 : Nat) ^ 60 ≤ 2 ^ 8000 := pow_le_pow (by decide)
  have x1 : callN P 29 17 [.int d1, .int (1 + d2)] (Sb4 ++ G2) = .ok (frD (lowF d1 (1 + d2))) (Sb4 ++ G2) := f17 27 _ _ _ (by omega) (by omega)
  have x2 : callN P 29 17 [.int d3, .int (1 + d4)] (Sb6 ++ G2) = .ok (frD (lowF d3 (1 + d4))) (Sb6 ++ G2) := f17 27 _ _ _ (by omega) (by omega)
  have t1 : Tm (lowF d1 (1 + d2)) := low_tm (by omega) (by omega) (by omega)
  have t2 : Tm (lowF d3 (1 + d4)) := low_tm (by omega) (by omega) (by omega)
  obtain ⟨k, hk, ok⟩ := ok_lastOf hne hl hr
  have tl := ok_tm ok hk
  have hat := at_last hne
  obtain ⟨low, hlow, hr0, hat0, tf⟩ : ∃ low, atI (rs.map D.int) 0 = some (.int low) ∧ Rg low ∧ atI ((lensF rs).map pairD) 0 = some (pairD (firstF low)) ∧ (Tm (firstF low).1 ∧ Tm (firstF low).2) := by
    cases rs with
    | nil => exact absurd rfl hne
    | cons r rs => exact ⟨r, at0 _ _, hr r (List.mem_cons_self ..), at0 _ _, ok_tm (ok_first (hr r (List.mem_cons_self ..))) (by omega)⟩
  have t01 : Tm (0, 1) := ⟨1, 1, by decide, by rw [← Nat.pow_zero 2]; exact Nat.pow_lt_pow_right (by decide) (by decide), by rw [← Nat.pow_zero 2]; exact Nat.pow_lt_pow_right (by decide) (by decide), ⟨by decide, ⟨1, rfl⟩, by decide⟩⟩
  have hx : (Sb6 ++ G2 ++ [SO.lst [pairD (firstF low), pairD (lastOf rs), .tup [frD (lastOf rs).1, .tup [.int 0, .int 1]], .tup [frD (lowF d1 (1 + d2)), frD (lowF d3 (1 + d4))]]])[(Sb6 ++ G2).length]? = some (.lst [pairD (firstF low), pairD (lastOf rs), .tup [frD (lastOf rs).1, .tup [.int 0, .int 1]], .tup [frD (lowF d1 (1 + d2)), frD (lowF d3 (1 + d4))]]) := by rw [st_get0]; rfl
  obtain ⟨o6', o7', o8', hin⟩ := inner l lap g hg (Sb6 ++ G2 ++ [SO.lst [pairD (firstF low), pairD (lastOf rs), .tup [frD (lastOf rs).1, .tup [.int 0, .int 1]], .tup [frD (lowF d1 (1 + d2)), frD (lowF d3 (1 + d4))]]]) ⟨[pairD (firstF low), pairD (lastOf rs), .tup [frD (lastOf rs).1, .tup [.int 0, .int 1]], .tup [frD (lowF d1 (1 + d2)), frD (lowF d3 (1 + d4))]], some (Sb6 ++ G2).length⟩ hx o0 (some (.tup (rs.map .int))) (some (.tup ((lensF rs).map pairD))) o9 o10 o11 o12 o13 [pairD (firstF low), pairD (lastOf rs), .tup [frD (lastOf rs).1, .tup [.int 0, .int 1]], .tup [frD (lowF d1 (1 + d2)), frD (lowF d3 (1 + d4))]] (fun d hd => by
    simp only [List.mem_cons, List.not_mem_nil, or_false] at hd
    rcases hd with rfl | rfl | rfl | rfl
    · exact ⟨_, rfl, tf⟩
    · exact ⟨_, rfl, tl⟩
    · exact ⟨((lastOf rs).1, (0, 1)), rfl, tl.1, t01⟩
    · exact ⟨(lowF d1 (1 + d2), lowF d3 (1 + d4)), rfl, t1, t2⟩) o6 o7 o8
  have ip : ∀ (p : Fr × Fr) (i : Int) (S : Store), idxD (pairD p) (.int i) S = okV (atI [frD p.1, frD p.2] i) S := fun _ _ _ => rfl
  refine seq_ex [o0, some (.loc l), some (.int lap), some (.tup (rs.map .int)), some (.tup ((lensF rs).map pairD)), some (.int g), o6', o7', o8', o9, o10, o11, o12, o13] (Sb6 ++ G2 ++ [SO.lst [pairD (firstF low), pairD (lastOf rs), .tup [frD (lastOf rs).1, .tup [.int 0, .int 1]], .tup [frD (lowF d1 (1 + d2)), frD (lowF d3 (1 + d4))]]]) (by
    clear hr hg a1 a2 a3 a4 b1 b2 b3 b4 B2 B3 B4 B5 B6 t1 t2 tl tf t01 ok hk hr0 big hlow hne hl
    walk_at "ev*") ?_
  rw [List.append_assoc]
  generalize G2 ++ [SO.lst [pairD (firstF low), pairD (lastOf rs), .tup [frD (lastOf rs).1, .tup [.int 0, .int 1]], .tup [frD (lowF d1 (1 + d2)), frD (lowF d3 (1 + d4))]]] = G3
  clear e1 e2 e3 e4 a1 a2 a3 a4 b1 b2 b3 b4 x1 x2 t1 t2 hx hin t01 tf hat0 hat tl ok hk k big B2 B3 B4 B5
  -- the least length
  have hml : (List.map D.int rs).length = rs.length := List.length_map ..
  have hm : 1 ≤ rs.length := len_pos hne
  refine seq_ex [o0, some (.loc l), some (.int lap), some (.tup (rs.map .int)), some (.tup ((lensF rs).map pairD)), some (.int g), o6', o7', o8', some (.int low), some (.int (rs.length : Int)), o11, o12, o13] (Sb6 ++ G3) (by clear hr hg B6 hr0 hm hl hne; walk_at "ev*") ?_
  clear hlow hml hr hne
  generalize rs.length = m at hm hl
  generalize D.tup (rs.map .int) = y3
  generalize D.tup ((lensF rs).map pairD) = y4
  obtain ⟨r, m2, Sa, Sb7, G4, e0, e1, a1, b1, c1, B7, N7⟩ := dp_is dr13 pk14 29 (by omega) l [60, 10000] [.int 60, .int 10000] rfl Sb6 G3 B6 (by simp) (by simp) (by simp)
  refine seq_ex [o0, some (.loc l), some (.int lap), some y3, some y4, some (.int g), o6', o7', o8', some (.int low), some (.int (m : Int)), some (.int (min 10000 (low + r))), o12, o13] (Sb7 ++ G4) (by clear hg B6 B7 N7 b1 hr0 hm hl a1 c1; walk_at "ev*") ?_
  clear e0 e1 a1 b1 c1 N7 B6
  generalize min 10000 (low + r) = high
  have hne : List.replicate m low ≠ [] := fun z => by
    have := congrArg List.length z
    simp only [List.length_replicate, List.length_nil] at this
    omega
  have hr : ∀ r ∈ List.replicate m low, Rg r := fun r h => by rw [List.mem_replicate] at h; rw [h.2]; exact hr0
  have hlen : (List.replicate m low).length ≤ 60 := by rw [List.length_replicate]; exact hl
  obtain ⟨k, hk, ok⟩ := ok_lastOf hne hlen hr
  have tl := ok_tm ok hk
  have hat := at_last hne
  have ho := tim_ok tl.1 tl.2 hg
  have hlc : lcS (callN P 29) [o0, some (.loc l), some (.int lap), some y3, some y4, some (.int g), o6', o7', o8', some (.int low), some (.int (m : Int)), some (.int high), o12, o13] (.nm 13) [13] .nil (.var 9) ⟨rngK 0 (m : Int), none⟩ (rngK 0 (m : Int)) [] (Sb7 ++ G4) = .ok ((List.replicate m low).map .int) (Sb7 ++ G4) := by
    have L0 : LINE = 16777216 := rfl
    rw [lc_map (callN P 29) _ _ (.nm 13) [13] (.var 9) _ (here_none _ _) (fun _ => .int low) (rngK 0 (m : Int)) [] (by rw [rng_len]; simp only [List.length_nil]; omega) (fun d hd => ⟨_, rfl, by
      rw [vE_var]
      rfl⟩)]
    rw [map_const_rng, List.nil_append, List.map_replicate]
  have x1 : ∀ S, callN P 29 21 [.tup ((List.replicate m low).map .int)] S = .ok (.tup ((lensF (List.replicate m low)).map pairD)) S := fun S => e_lawlen 24 _ hne (by omega) hr S
  have x2 : ∀ S, callN P 29 11 [.int low, .int high, .int (m : Int), .int g] S = .ok (frD (timF (lastOf (List.replicate m low)).1 (lastOf (List.replicate m low)).2 g)) S := fun S => e_least 23 low high m ⟨hm, hl⟩ hr0 g hg S
  have x3 : ∀ S, callN P 29 22 [frD (lastOf (List.replicate m low)).1, frD (lastOf (List.replicate m low)).2, .int g] S = .ok (frD (timF (lastOf (List.replicate m low)).1 (lastOf (List.replicate m low)).2 g)) S := fun S => e_timer 25 _ _ g ho S
  clear hr hne hlen hk ok ho hg tl
  generalize List.replicate m low = qs at hat hlc x1 x2 x3
  have hx : (Sb7 ++ G4 ++ [SO.lst (qs.map .int)])[(Sb7 ++ G4).length]? = some (.lst (qs.map .int)) := by rw [st_get0]; rfl
  have h62 : R62 (m : Int) := ⟨by omega, by omega⟩
  refine seq_ex [o0, some (.loc l), some (.int lap), some y3, some y4, some (.int g), o6', o7', o8', some (.int low), some (.int (m : Int)), some (.int high), some (pairD (lastOf qs)), o13] (Sb7 ++ G4 ++ [SO.lst (qs.map .int)]) (by clear B7 hr0 hm hl x2 x3; walk_at "ev*") ?_
  rw [List.append_assoc]
  generalize G4 ++ [SO.lst (qs.map .int)] = G5
  clear hx hlc x1 hat
  refine seq_ex [o0, some (.loc l), some (.int lap), some y3, some y4, some (.int g), o6', o7', some (frD (timF (lastOf qs).1 (lastOf qs).2 g)), some (.int low), some (.int (m : Int)), some (.int high), some (pairD (lastOf qs)), o13] (Sb7 ++ G5) (by
    clear B7 hr0 hm hl x3
    have q4 := pm4
    by_cases hlap : 0 < lap
    · walk_at "ev*"
    · walk_at "ev*") ?_
  have same := same_fr (timF (lastOf qs).1 (lastOf qs).2 g) (Sb7 ++ G5)
  refine seq_ex [o0, some (.loc l), some (.int lap), some y3, some y4, some (.int g), o6', o7', some (frD (timF (lastOf qs).1 (lastOf qs).2 g)), some (.int low), some (.int (m : Int)), some (.int high), some (pairD (lastOf qs)), o13] (Sb7 ++ G5) (by
    clear B7 hr0 hm hl
    walk_at "ev*") ?_
  rw [xSs_nil]
  exact ⟨_, _, rfl, o0, some (.int lap), some y3, some y4, some (.int g), o6', o7', _, some (.int low), _, _, _, o13, Sb7, G5, rfl, rfl, B7⟩
theorem main (ns : List Int) (hn : ns.length ≤ 63) : ∃ S', SX.callN P 30 24 [.rls (ns.map .int)] [] = .ok (.bl true) S' := by
  rw [callN_eq 29 _ _ (fd := ⟨1, 14, b_law, false⟩) rfl rfl (Nat.le_of_ble_eq_true rfl)]
  suffices H : ∃ S' env, exSs (callN P 29) b_law [some (.rls (ns.map .int)), none, none, none, none, none, none, none, none, none, none, none, none, none] [] = .ok (.ret (.bl true), env) S' by
    obtain ⟨S', env, h⟩ := H
    exact ⟨S', end_any h rfl⟩
  rw [law_eq]
  obtain ⟨Sb, l, e, hB⟩ := e_bag (P := P) (f := 12) rfl 28 ns (by omega)
  have e' : callN P 29 12 [.rls (ns.map .int)] [] = .ok (.loc l) Sb := e
  refine seq_ex (Q := fun r => ∃ S' env, r = .ok (.ret (.bl true), env) S') [some (.rls (ns.map .int)), some (.loc l), none, none, none, none, none, none, none, none, none, none, none, none] Sb (by walk_at "ev*") ?_
  obtain ⟨e2, s2, a, o0, o2, o3, o4, o5, o6, o7, o8, o9, o10, o11, o12, o13, Sb2, G2, rfl, rfl, B2⟩ := fo_inv (callN P 29) (.nm 2) lawB ⟨rngK 0 5, none⟩ (Inv l) (fun e s _ => here_none s _) (rngK 0 5) (fun d hd e s ⟨o0, o2, o3, o4, o5, o6, o7, o8, o9, o10, o11, o12, o13, Sb, G, he, hs, hB⟩ => by
    obtain ⟨lap, rfl, -, -⟩ := rng_mem hd
    subst he
    subst hs
    obtain ⟨e2, s2, h1, h2⟩ := turn l lap Sb G hB o0 o3 o4 o5 o6 o7 o8 o9 o10 o11 o12 o13
    exact ⟨_, e2, s2, rfl, h1, h2⟩) [some (.rls (ns.map .int)), some (.loc l), none, none, none, none, none, none, none, none, none, none, none, none] Sb ⟨_, _, _, _, _, _, _, _, _, _, _, _, _, Sb, [], rfl, (List.append_nil _).symm, hB⟩
  refine seq_ex (Q := fun r => ∃ S' env, r = .ok (.ret (.bl true), env) S') [o0, some (.loc l), o2, o3, o4, o5, o6, o7, o8, o9, o10, o11, o12, o13] (Sb2 ++ G2) (by walk_at "ev*") ?_
  exact ⟨Sb2 ++ G2, [o0, some (.loc l), o2, o3, o4, o5, o6, o7, o8, o9, o10, o11, o12, o13], by walk_at "ev"⟩
end
end LW
open PySem PySem.W PyProof.Rows
set_option maxHeartbeats 0 in
theorem PySem.Challenge.cw_surecrossing_k40_lengths_holds : PySem.Challenge.rw_surecrossing_k40_lengths.Holds := by
  w_on; o_law; k_head; (case hw => w_witness2)
  k_fill
  refine L2.walk_of (l := PySem.Challenge.rw_surecrossing_k40_lengths) (n := 63) (k := LW.LV) (x := "script") (CX := fun _ => L2.CX0) (sp := fun w => SX.GSp _ 1 (SX.callN LW.P LW.LV LW.i_law)) rfl (by decide) rfl ⟨rfl, by decide, by decide⟩ (fun w h Y => PySem.W.kIn_of Y) ?F (fun _ _ a ns hl hO hS => SX.law_sp hO hS (LW.main ns hl)) (fun _ _ _ _ _ h => h)
  case F =>
    intro w mg fa h KX G hmg
    refine' LW.all_mk KX G hmg ?a0 ?l0 ?c0 ?k0 ?a1 ?l1 ?c1 ?k1 ?a2 ?l2 ?c2 ?k2 ?a3 ?l3 ?c3 ?k3 ?a4 ?l4 ?c4 ?k4 ?a5 ?l5 ?c5 ?k5 ?a6 ?l6 ?c6 ?k6 ?a7 ?l7 ?c7 ?k7 ?a8 ?l8 ?c8 ?k8 ?a9 ?l9 ?c9 ?k9 ?a10 ?l10 ?c10 ?k10 ?a11 ?l11 ?c11 ?k11 ?a12 ?l12 ?c12 ?k12 ?a13 ?l13 ?c13 ?k13 ?a14 ?l14 ?c14 ?k14 ?a15 ?l15 ?c15 ?k15 ?a16 ?l16 ?c16 ?k16 ?a17 ?l17 ?c17 ?k17 ?a18 ?l18 ?c18 ?k18 ?a19 ?l19 ?c19 ?k19 ?a20 ?l20 ?c20 ?k20 ?a21 ?l21 ?c21 ?k21 ?a22 ?l22 ?c22 ?k22 ?a23 ?l23 ?c23 ?k23 ?a24 ?l24 ?c24 ?k24 ?z0 ?z1 ?z2 ?z3 ?z4 ?z5 ?z6 ?z7 ?z8
    (case a0 => k_is); (case l0 => k_is); (case c0 => k_is); (case k0 => k_is); (case a1 => k_is); (case l1 => k_is); (case c1 => k_is); (case k1 => k_is); (case a2 => k_is); (case l2 => k_is); (case c2 => k_is); (case k2 => k_is); (case a3 => k_is); (case l3 => k_is); (case c3 => k_is); (case k3 => k_is); (case a4 => k_is); (case l4 => k_is); (case c4 => k_is); (case k4 => k_is); (case a5 => k_is); (case l5 => k_is); (case c5 => k_is); (case k5 => k_is); (case a6 => k_is); (case l6 => k_is); (case c6 => k_is); (case k6 => k_is); (case a7 => k_is); (case l7 => k_is); (case c7 => k_is); (case k7 => k_is); (case a8 => k_is); (case l8 => k_is); (case c8 => k_is); (case k8 => k_is); (case a9 => k_is); (case l9 => k_is); (case c9 => k_is); (case k9 => k_is); (case a10 => k_is); (case l10 => k_is); (case c10 => k_is); (case k10 => k_is); (case a11 => k_is); (case l11 => k_is); (case c11 => k_is); (case k11 => k_is); (case a12 => k_is); (case l12 => k_is); (case c12 => k_is); (case k12 => k_is); (case a13 => k_is); (case l13 => k_is); (case c13 => k_is); (case k13 => k_is); (case a14 => k_is); (case l14 => k_is); (case c14 => k_is); (case k14 => k_is); (case a15 => k_is); (case l15 => k_is); (case c15 => k_is); (case k15 => k_is); (case a16 => k_is); (case l16 => k_is); (case c16 => k_is); (case k16 => k_is); (case a17 => k_is); (case l17 => k_is); (case c17 => k_is); (case k17 => k_is); (case a18 => k_is); (case l18 => k_is); (case c18 => k_is); (case k18 => k_is); (case a19 => k_is); (case l19 => k_is); (case c19 => k_is); (case k19 => k_is); (case a20 => k_is); (case l20 => k_is); (case c20 => k_is); (case k20 => k_is); (case a21 => k_is); (case l21 => k_is); (case c21 => k_is); (case k21 => k_is); (case a22 => k_is); (case l22 => k_is); (case c22 => k_is); (case k22 => k_is); (case a23 => k_is); (case l23 => k_is); (case c23 => k_is); (case k23 => k_is); (case a24 => k_is); (case l24 => k_is); (case c24 => k_is); (case k24 => k_is); (case z0 => k_is); (case z1 => k_is); (case z2 => k_is); (case z3 => k_is); (case z4 => k_is); (case z5 => k_is); (case z6 => k_is); (case z7 => k_is); (case z8 => k_is)
