import PyProof.Rows.All
import Wide.All
import OpenK.AllK
import Wide.FinOn
import HandS.ForMost
import HandS.ForExc
import KE.KDictKeyed
import KE.SortData
import HandS.Lambda
import HandS.TupAny
import HandS.Wide
import HandS.TupLe
import HandS.ReCall
import HandS.IsInst
import KE.KDictCopyH
import KE.KDictSum
import HandS.More
import PyProof.ReprRoads
import HandS.Style
import HandS.Zip
import HandS.Small
import HandS.EndTab
import HandS.ExcIs
import PySem.Challenge.RW_oddsheld_k21_whole_odds_where_outs_are_a
section
set_option Elab.async false
set_option linter.all false
/-! EvCore: plain values, a store, the IR of a fragment of Python, its evaluator, the translation of the model's trees into it. -/
namespace Ev
open PySem

/-- a value: tuples by value, mutable things by their number in the store -/
inductive Val where
  | non | bl (b : Bool) | int (i : Int) | str (x : Str)
  | tup (vs : List Val)
  | rol (vs : List Val)
  | obj (n : Nat)
  deriving Inhabited
inductive Cell where
  | lst (vs : List Val)
  | dic (kvs : List (Val × Val))
  deriving Inhabited
abbrev Store := List Cell
abbrev Env := List (Option Val)

/-- how an expression ends: a value, an error of the class of that number, or nothing is said -/
inductive R (α : Type) where
  | ok (a : α) (S : Store) | err (c : Nat) (S : Store) | stuck
def R.bind {α β : Type} (r : R α) (k : α → Store → R β) : R β :=
  match r with
  | .ok a S => k a S
  | .err c S => .err c S
  | .stuck => .stuck
/-- how a statement ends -/
inductive F where
  | next (e : Env) (S : Store) | ret (v : Val) (S : Store) | brk (e : Env) (S : Store) | cont (e : Env) (S : Store)
  | err (c : Nat) (e : Env) (S : Store) | stuck
def F.bind (r : F) (k : Env → Store → F) : F :=
  match r with
  | .next e S => k e S
  | r => r
def R.toF {α : Type} (r : R α) (e : Env) (k : α → Store → F) : F :=
  match r with
  | .ok a S => k a S
  | .err c S => .err c e S
  | .stuck => .stuck

/-- sizes are held below this -/
def cap : Nat := 1000000

/-! ### values as data -/
def toD (S : Store) : Nat → Val → Option PyData
  | _, .non => some .none
  | _, .bl b => some (.bool b)
  | _, .int i => some (.int i)
  | _, .str x => if PyData.strOk x = true then some (.str x) else none
  | 0, .tup _ => none
  | 0, .rol _ => none
  | 0, .obj _ => none
  | d + 1, .tup vs => (vs.mapM (toD S d)).map .tuple
  | d + 1, .rol vs => (vs.mapM (toD S d)).map .list
  | d + 1, .obj n => match S[n]? with
    | some (.lst vs) => (vs.mapM (toD S d)).map .list
    | _ => none
def deepMost : Nat := 12
/-- a key of a dict: a tuple of ints, texts, None and tuples -/
def keyP : Nat → Val → Option NestedKey
  | _, .non => some .none
  | _, .int i => some (.num i)
  | _, .str x => some (.text x)
  | d + 1, .tup vs => (vs.mapM (keyP d)).map .tup
  | _, _ => none
def keyOf (v : Val) : Option NestedKey := match v with
  | .tup _ => keyP 6 v
  | _ => none
def look (kvs : List (Val × Val)) (k : NestedKey) : Option Val := (kvs.find? fun p => decide (keyOf p.1 = some k)).map (·.2)
def putd (kvs : List (Val × Val)) (k : NestedKey) (kv v : Val) : List (Val × Val) :=
  if (kvs.any fun p => decide (keyOf p.1 = some k)) = true then kvs.map fun p => if keyOf p.1 = some k then (p.1, v) else p else kvs ++ [(kv, v)]
def pairs : List Val → Option (List (Val × Val))
  | [] => some []
  | .tup [k, v] :: r => (pairs r).map ((k, v) :: ·)
  | _ => none
def putAll : List (Val × Val) → List (Val × Val) → Option (List (Val × Val))
  | acc, [] => some acc
  | acc, (k, v) :: r => match keyOf k with
    | some kk => putAll (putd acc kk k v) r
    | none => none
/-! ### the order of data: ints, tuples of such in one another -/
/-- the three-way order; none where Python would not answer, or the layer does not -/
def ordV : Nat → Val → Val → Option Ordering
  | _, .int i, .int j => some (compare i j)
  | d + 1, .tup a, .tup b => ordL d a b
  | _, _, _ => none
where ordL (d : Nat) : List Val → List Val → Option Ordering
  | [], [] => some .eq
  | [], _ :: _ => some .lt
  | _ :: _, [] => some .gt
  | x :: xs, y :: ys => match ordV d x y with
    | some .eq => ordL d xs ys
    | r => r
  termination_by structural xs => xs

/-! ### operations -/
def alloc (c : Cell) (S : Store) : R Val := .ok (.obj S.length) (S ++ [c])
inductive Op2 where | add | sub | mul | fdiv | mod | pow
inductive Cm where | eq | ne | lt | le | gt | ge | is | isnot | isin | notin
inductive BI where | len | abs | int | all | tuple | list | dict | sum | sorted | repr
inductive Ty where | int | bool | tuple | list | str | dict
  deriving DecidableEq
def binop (o : Op2) (a b : Val) (S : Store) : R Val :=
  match o, a, b with
  | .add, .int i, .int j => .ok (.int (i + j)) S
  | .sub, .int i, .int j => .ok (.int (i - j)) S
  | .mul, .int i, .int j => if i.natAbs.log2 + j.natAbs.log2 < 1000000 then .ok (.int (i * j)) S else .stuck
  | .fdiv, .int i, .int j => if 0 < j ∧ j.natAbs.log2 < 9000 then .ok (.int (i / j)) S else .stuck
  | .mod, .int i, .int j => if 0 < j then .ok (.int (i % j)) S else .stuck
  | .pow, .int i, .int j => if (0 ≤ j ∧ j ≤ 1000000) ∧ i.natAbs < 2 ^ 64 then .ok (.int (i ^ j.toNat)) S else .stuck
  | .add, .tup xs, .tup ys => if xs.length + ys.length ≤ cap then .ok (.tup (xs ++ ys)) S else .stuck
  | .add, .obj m, .obj n => match S[m]?, S[n]? with
    | some (.lst xs), some (.lst ys) => if xs.length + ys.length ≤ cap then alloc (.lst (xs ++ ys)) S else .stuck
    | _, _ => .stuck
  | .mul, .obj m, .int k => match S[m]? with
    | some (.lst xs) => if 0 ≤ k ∧ k ≤ 1000 ∧ xs.length ≤ 1000 then alloc (.lst (List.replicate k.toNat xs).flatten) S else .stuck
    | _ => .stuck
  | _, _, _ => .stuck
/-- a == b, where both are data -/
def eqD (S : Store) (a b : Val) : Option Bool := match toD S deepMost a, toD S deepMost b with
  | some d, some e => some (PyData.eqv d e)
  | _, _ => none
/-- a < b of two tuples of alike data -/
def ltD (S : Store) (a b : Val) : Option Bool := match a, b with
  | .int i, .int j => some (decide (i < j))
  | .tup _, .tup _ => match toD S deepMost a, toD S deepMost b with
    | some d, some e => if PySem.W.alike d e = true then some (PySem.W.dataLt d e) else none
    | _, _ => none
  | _, _ => none
def isV (a b : Val) : Option Bool := match a, b with
  | .non, .non => some true
  | _, .non => some false
  | .bl x, .bl y => some (decide (x = y))
  | _, _ => none
def inV (S : Store) (a b : Val) : Option Bool := match b, keyOf a with
  | .obj n, some k => match S[n]? with
    | some (.dic kvs) => some (look kvs k).isSome
    | _ => none
  | _, _ => none
def leV (a b : Val) : Option Bool := match a, b with
  | .int i, .int j => some (decide (i ≤ j))
  | _, _ => none
def gtV (a b : Val) : Option Bool := match a, b with
  | .int i, .int j => some (decide (j < i))
  | _, _ => none
def geV (a b : Val) : Option Bool := match a, b with
  | .int i, .int j => some (decide (j ≤ i))
  | _, _ => none
def cmpV (o : Cm) (S : Store) (a b : Val) : Option Bool :=
  match o with
  | .eq => eqD S a b
  | .ne => (eqD S a b).map (!·)
  | .lt => ltD S a b
  | .le => leV a b
  | .gt => gtV a b
  | .ge => geV a b
  | .is => isV a b
  | .isnot => (isV a b).map (!·)
  | .isin => inV S a b
  | .notin => (inV S a b).map (!·)
def cmpop (o : Cm) (a b : Val) (S : Store) : R Val := match cmpV o S a b with
  | some c => .ok (.bl c) S
  | none => .stuck
/-- the items of a list or tuple -/
def seqOf (S : Store) (a : Val) : Option (List Val) := match a with
  | .tup vs => some vs
  | .rol vs => some vs
  | .obj n => match S[n]? with
    | some (.lst vs) => some vs
    | _ => none
  | _ => none
def idxop (a b : Val) (S : Store) : R Val := match b with
  | .int i => match seqOf S a with
    | some vs => match L2.atI vs i with
      | some v => .ok v S
      | none => .stuck
    | none => .stuck
  | .tup _ => match a, keyOf b with
    | .obj n, some k => match S[n]? with
      | some (.dic kvs) => match look kvs k with
        | some v => .ok v S
        | none => .stuck
      | _ => .stuck
    | _, _ => .stuck
  | _ => .stuck
def cut (vs : List Val) (lo hi : Option Int) : List Val := (vs.drop (HT.sIx vs.length 0 lo)).take (HT.sIx vs.length vs.length hi - HT.sIx vs.length 0 lo)
def slcop (a : Val) (lo hi : Option Int) (S : Store) : R Val := match a with
  | .tup vs => .ok (.tup (cut vs lo hi)) S
  | a => match seqOf S a with
    | some vs => alloc (.lst (cut vs lo hi)) S
    | none => .stuck
def boolsOf : List Val → Option (List Bool)
  | [] => some []
  | .bl b :: r => (boolsOf r).map (b :: ·)
  | _ => none
def intsOf : List Val → Option (List Int)
  | [] => some []
  | .int b :: r => (intsOf r).map (b :: ·)
  | _ => none
/-- data sorted: tuples with an item at least, all alike -/
def sortable (ds : List PyData) : Bool := ds.all fun d => (match d with | .tuple (_ :: _) => true | _ => false) && ds.all fun e => PySem.W.alike d e
def sortV (S : Store) (vs : List Val) : Option (List Val) := match vs.mapM (toD S deepMost) with
  | some ds => if sortable ds = true then some (((vs.zip ds).mergeSort (PySem.W.dataLe false fun p : Val × PyData => p.2)).map (·.1)) else none
  | none => none
def isRef : Val → Bool
  | .tup _ => true
  | .rol _ => true
  | .obj _ => true
  | _ => false
def lenop (a : Val) (S : Store) : R Val := match a with
  | .obj n => match S[n]? with
    | some (.dic kvs) => .ok (.int kvs.length) S
    | some (.lst vs) => .ok (.int vs.length) S
    | none => .stuck
  | .tup vs => .ok (.int vs.length) S
  | .rol vs => .ok (.int vs.length) S
  | _ => .stuck
def absop (a : Val) (S : Store) : R Val := match a with
  | .int i => .ok (.int i.natAbs) S
  | _ => .stuck
def intop (a : Val) (S : Store) : R Val := match a with
  | .int i => .ok (.int i) S
  | .bl c => .ok (.int (if c = true then 1 else 0)) S
  | _ => .stuck
def allop (a : Val) (S : Store) : R Val := match a with
  | .obj n => match S[n]? with
    | some (.lst vs) => match boolsOf vs with
      | some bs => .ok (.bl (bs.all id)) S
      | none => .stuck
    | _ => .stuck
  | _ => .stuck
def tupleop (a : Val) (S : Store) : R Val := match seqOf S a with
  | some vs => .ok (.tup vs) S
  | none => .stuck
def listop (a : Val) (S : Store) : R Val := match seqOf S a with
  | some vs => alloc (.lst vs) S
  | none => .stuck
def dictop (a : Val) (S : Store) : R Val := match a with
  | .tup vs => match pairs vs with
    | some ps => match putAll [] ps with
      | some kvs => if vs.length ≤ cap then alloc (.dic kvs) S else .stuck
      | none => .stuck
    | none => .stuck
  | _ => .stuck
def sumop (a : Val) (S : Store) : R Val := match a with
  | .obj n => match S[n]? with
    | some (.lst vs) => match intsOf vs with
      | some zs => .ok (.int zs.sum) S
      | none => .stuck
    | _ => .stuck
  | _ => .stuck
def sortedop (a : Val) (S : Store) : R Val := match a with
  | .obj n => match S[n]? with
    | some (.dic kvs) => match sortV S (kvs.map (·.1)) with
      | some vs => alloc (.lst vs) S
      | none => .stuck
    | _ => .stuck
  | _ => .stuck
def reprop (gd : Bool) (a : Val) (S : Store) : R Val := if isRef a = true ∧ gd = true then match toD S deepMost a with
    | some d => if d.showable = true ∧ d.shown.length ≤ cap then .ok (.str d.shown) S else .stuck
    | none => .stuck
  else .stuck
def biop (gd : Bool) (b : BI) (a : Val) (S : Store) : R Val :=
  match b with
  | .len => lenop a S
  | .abs => absop a S
  | .int => intop a S
  | .all => allop a S
  | .tuple => tupleop a S
  | .list => listop a S
  | .dict => dictop a S
  | .sum => sumop a S
  | .sorted => sortedop a S
  | .repr => reprop gd a S
/-- isinstance(a, t) -/
def isiV (S : Store) (a : Val) (t : Ty) : Option Bool := match a with
  | .non => some false
  | .bl _ => some (decide (t = .bool) || decide (t = .int))
  | .int _ => some (decide (t = .int))
  | .str _ => some (decide (t = .str))
  | .tup _ => some (decide (t = .tuple))
  | .rol _ => some (decide (t = .list))
  | .obj n => match S[n]? with
    | some (.lst _) => some (decide (t = .list))
    | _ => none
def isiop (t : Ty) (x : Val) (S : Store) : R Val := match isiV S x t with
  | some b => .ok (.bl b) S
  | none => .stuck
def revop (x : Val) (S : Store) : R Val := match x with
  | .tup vs => .ok (.tup vs.reverse) S
  | _ => .stuck
def setop (o k v : Val) (S : Store) : Option Store := match o with
  | .obj n => match S[n]?, k with
    | some (.lst vs), .int i => match L2.ixN vs.length i with
      | some j => some (S.set n (.lst (vs.set j v)))
      | none => none
    | some (.dic kvs), .tup ks => match keyOf (.tup ks) with
      | some kk => if kvs.length < cap then some (S.set n (.dic (putd kvs kk (.tup ks) v))) else none
      | none => none
    | _, _ => none
  | _ => none
def appop (o v : Val) (S : Store) : R Val := match o with
  | .obj n => match S[n]? with
    | some (.lst vs) => if vs.length < cap then .ok .non (S.set n (.lst (vs ++ [v]))) else .stuck
    | _ => .stuck
  | _ => .stuck
def get2op (d k x : Val) (S : Store) : R Val := match d, keyOf k with
  | .obj n, some kk => match S[n]? with
    | some (.dic kvs) => .ok ((look kvs kk).getD x) S
    | _ => .stuck
  | _, _ => .stuck

def isLst (S : Store) (v : Val) : Bool := match v with
  | .obj n => match S[n]? with
    | some (.lst _) => true
    | _ => false
  | _ => false
def isDic (S : Store) (v : Val) : Bool := match v with
  | .obj n => match S[n]? with
    | some (.dic _) => true
    | _ => false
  | _ => false
/-! ### what is walked -/
inductive Src where
  | tup (vs : List Val) | rol (vs : List Val) | lst (n : Nat) | rng (n : Nat) | zip (a b : Src)
/-- the i-th item; some none: at its end; none: nothing is said -/
def Src.at (S : Store) : Src → Nat → Option (Option Val)
  | .tup vs, i => some vs[i]?
  | .rol vs, i => some vs[i]?
  | .lst n, i => match S[n]? with
    | some (.lst vs) => some vs[i]?
    | _ => none
  | .rng n, i => some (if i < n then some (.int i) else none)
  | .zip a b, i => match a.at S i, b.at S i with
    | some (some x), some (some y) => some (some (.tup [x, y]))
    | some none, some _ => some none
    | some (some _), some none => some none
    | _, _ => none
def Src.len (S : Store) : Src → Nat
  | .tup vs => vs.length
  | .rol vs => vs.length
  | .lst n => match S[n]? with
    | some (.lst vs) => vs.length
    | _ => 0
  | .rng n => n
  | .zip a b => min (a.len S) (b.len S)
def srcOf (S : Store) (a : Val) : Option Src := match a with
  | .tup vs => some (.tup vs)
  | .rol vs => some (.rol vs)
  | .obj n => match S[n]? with
    | some (.lst _) => some (.lst n)
    | _ => none
  | _ => none

def seqop (v : Val) (S : Store) : R Src := match srcOf S v with
  | some s => .ok s S
  | none => .stuck
def rngop (i : Int) (S : Store) : R Src := if i < 1000000000000 ∧ -1000000000000 < i then .ok (.rng i.toNat) S else .stuck
def zipop (x y : Val) (S : Store) : R Src := match srcOf S x, srcOf S y with
  | some (.tup xs), some (.tup ys) => .ok (.zip (.tup xs) (.tup ys)) S
  | some (.lst m), some (.lst n) => .ok (.zip (.lst m) (.lst n)) S
  | _, _ => .stuck

/-! ### the IR -/
mutual
inductive Tg where | name (i : Nat) | tup (ts : Tgs)
inductive Tgs where | nil | cons (t : Tg) (ts : Tgs)
end
/-- a pair of zip is taken apart at once -/
def tgOk : Src → Tg → Bool
  | .zip _ _, .name _ => false
  | _, _ => true
mutual
inductive IE where
  | cst (v : Val) | glb (g : Nat) | var (i : Nat)
  | tup (es : IEs) | lst (es : IEs) | dnew
  | bin (o : Op2) (a b : IE) | neg (a : IE) | not (a : IE) | and (a b : IE) | or (a b : IE)
  | cmp (o : Cm) (a b : IE) | chn (o o' : Cm) (a b c : IE) | ife (c a b : IE)
  | idx (a b : IE) | slc (a : IE) (lo hi : IO) | rev (a : IE)
  | call (f : Nat) (es : IEs) | bi (b : BI) (a : IE) | isi (a : IE) (t : Ty) | app (a b : IE) | get2 (d k x : IE)
  | lc (own : List Nat) (elt : IE) (tg : Tg) (it : II) (c : IO)
  | lam (t : Nat) (body : IE)
inductive IEs where | nil | cons (e : IE) (es : IEs)
inductive IO where | none | some (e : IE)
inductive II where | seq (e : IE) | range (e : IE) | zip (a b : IE)
end
mutual
inductive IS where
  | asg (t : Tg) (e : IE) | par (i j : Nat) (a b : IE) | sub (o k e : IE)
  | ret (e : IE) | expr (e : IE) | ife (c : IE) (a b : IB) | whl (c : IE) (b : IB) | for (t : Tg) (it : II) (b : IB)
  | raise (c : Nat) | pass
inductive IB where | nil | cons (s : IS) (b : IB)
end

/-! ### the evaluator -/
abbrev Calls := Nat → List Val → Store → R Val
/-- the calls that a block may make; those that a lambda's body in it may make; whether it is known that nothing is being shown (for repr) -/
structure Ctx where
  C : Calls
  CL : Calls
  gd : Bool
def Ctx.lam (q : Ctx) : Ctx := ⟨q.CL, fun _ _ _ => .stuck, false⟩
mutual
def setT : Tg → Val → Env → Option Env
  | .name i, v, e => if i < e.length then some (e.set i (some v)) else none
  | .tup ts, v, e => match v with
    | .tup vs => setTs ts vs e
    | _ => none
def setTs : Tgs → List Val → Env → Option Env
  | .nil, [], e => some e
  | .cons t ts, v :: vs, e => match setT t v e with
    | some e' => setTs ts vs e'
    | none => none
  | _, _, _ => none
end
/-- a value that must be a truth value -/
def asB (r : R Val) : R Bool := r.bind fun v S => match v with
  | .bl b => .ok b S
  | _ => .stuck
/-- a value that must be an int -/
def asI (r : R Val) : R Int := r.bind fun v S => match v with
  | .int i => .ok i S
  | _ => .stuck
def truth (r : R Val) (k : Bool → Store → R Val) : R Val := (asB r).bind k
def wipeE (e : Env) : List Nat → Env
  | [] => e
  | v :: vs => (wipeE e vs).set v none
def lcLoop (src : Src) (turn : Val → Store → R (Option Val)) : Nat → Nat → List Val → Store → R (List Val)
  | 0, _, _, _ => .stuck
  | f + 1, i, acc, S => match src.at S i with
    | none => .stuck
    | some none => .ok acc S
    | some (some v) => match turn v S with
      | .ok (some y) S' => if acc.length < cap then lcLoop src turn f (i + 1) (acc ++ [y]) S' else .stuck
      | .ok none S' => lcLoop src turn f (i + 1) acc S'
      | .err _ _ => .stuck
      | .stuck => .stuck
def toOpt (r : R Val) : R (Option Val) := match r with
  | .ok v S => .ok (some v) S
  | .err c S => .err c S
  | .stuck => .stuck
/-- the answers of defs that take a lambda, by how its body ends -/
abbrev Takers := Nat → R Val → R Val
mutual
def evE (G : List Val) (LT : Takers) : IE → Ctx → Env → Store → R Val
  | .cst v, _, _, S => .ok v S
  | .glb g, _, _, S => match G[g]? with
    | some v => .ok v S
    | none => .stuck
  | .var i, _, e, S => match e[i]? with
    | some (some v) => .ok v S
    | _ => .stuck
  | .tup es, q, e, S => (evL G LT es q e S).bind fun vs S => if vs.length ≤ cap then .ok (.tup vs) S else .stuck
  | .lst es, q, e, S => (evL G LT es q e S).bind fun vs S => if vs.length ≤ cap then alloc (.lst vs) S else .stuck
  | .dnew, _, _, S => alloc (.dic []) S
  | .bin o a b, q, e, S => (evE G LT a q e S).bind fun x S => (evE G LT b q e S).bind fun y S => binop o x y S
  | .neg a, q, e, S => (asI (evE G LT a q e S)).bind fun i S => .ok (.int (-i)) S
  | .not a, q, e, S => truth (evE G LT a q e S) fun b S => .ok (.bl (!b)) S
  | .and a b, q, e, S => truth (evE G LT a q e S) fun c S => if c = true then evE G LT b q e S else .ok (.bl false) S
  | .or a b, q, e, S => truth (evE G LT a q e S) fun c S => if c = true then .ok (.bl true) S else evE G LT b q e S
  | .cmp o a b, q, e, S => (evE G LT a q e S).bind fun x S => (evE G LT b q e S).bind fun y S => cmpop o x y S
  | .chn o o' a b c, q, e, S => (evE G LT a q e S).bind fun x S => (evE G LT b q e S).bind fun y S => truth (cmpop o x y S) fun t S =>
      if t = true then (evE G LT c q e S).bind fun z S => cmpop o' y z S else .ok (.bl false) S
  | .ife c a b, q, e, S => truth (evE G LT c q e S) fun t S => if t = true then evE G LT a q e S else evE G LT b q e S
  | .idx a b, q, e, S => (evE G LT a q e S).bind fun x S => (evE G LT b q e S).bind fun y S => idxop x y S
  | .slc a lo hi, q, e, S => (evE G LT a q e S).bind fun x S => (evO G LT lo q e S).bind fun l S => (evO G LT hi q e S).bind fun h S => slcop x l h S
  | .rev a, q, e, S => (evE G LT a q e S).bind fun x S => revop x S
  | .call f es, q, e, S => (evL G LT es q e S).bind fun vs S => q.C f vs S
  | .bi b a, q, e, S => (evE G LT a q e S).bind fun x S => biop q.gd b x S
  | .isi a t, q, e, S => (evE G LT a q e S).bind fun x S => isiop t x S
  | .app a b, q, e, S => (evE G LT a q e S).bind fun x S => if isLst S x = true then (evE G LT b q e S).bind fun y S => appop x y S else .stuck
  | .get2 d k x, q, e, S => (evE G LT d q e S).bind fun u S => if isDic S u = true then (evE G LT k q e S).bind fun v S => (evE G LT x q e S).bind fun w S => get2op u v w S else .stuck
  | .lc own elt tg it c, q, e, S => match evI G LT it q e S with
    | .ok src S1 => if tgOk src tg = false then .stuck else match lcLoop src (fun v S => match setT tg v (wipeE e own) with
        | none => .stuck
        | some e2 => match evC G LT c q e2 S with
          | .ok true S => toOpt (evE G LT elt q e2 S)
          | .ok false S => .ok none S
          | .err c S => .err c S
          | .stuck => .stuck) (src.len S1 + 1) 0 [] S1 with
      | .ok acc S2 => alloc (.lst acc) S2
      | .err _ _ => .stuck
      | .stuck => .stuck
    | .err _ _ => .stuck
    | .stuck => .stuck
  | .lam t body, q, e, S => LT t (evE G LT body q.lam e S)
def evL (G : List Val) (LT : Takers) : IEs → Ctx → Env → Store → R (List Val)
  | .nil, _, _, S => .ok [] S
  | .cons x es, q, e, S => (evE G LT x q e S).bind fun v S => (evL G LT es q e S).bind fun vs S => .ok (v :: vs) S
def evO (G : List Val) (LT : Takers) : IO → Ctx → Env → Store → R (Option Int)
  | .none, _, _, S => .ok none S
  | .some x, q, e, S => (asI (evE G LT x q e S)).bind fun i S => .ok (some i) S
def evC (G : List Val) (LT : Takers) : IO → Ctx → Env → Store → R Bool
  | .none, _, _, S => .ok true S
  | .some x, q, e, S => asB (evE G LT x q e S)
def evI (G : List Val) (LT : Takers) : II → Ctx → Env → Store → R Src
  | .seq x, q, e, S => (evE G LT x q e S).bind fun v S => seqop v S
  | .range x, q, e, S => (asI (evE G LT x q e S)).bind fun i S => rngop i S
  | .zip a b, q, e, S => (evE G LT a q e S).bind fun x S => (evE G LT b q e S).bind fun y S => zipop x y S
end
def whileLoop (test : Env → Store → R Bool) (body : Env → Store → F) : Nat → Env → Store → F
  | 0, _, _ => .stuck
  | f + 1, e, S => (test e S).toF e fun b S => if b = true then match body e S with
      | .next e S => whileLoop test body f e S
      | .cont e S => whileLoop test body f e S
      | .brk e S => .next e S
      | .ret v S => .ret v S
      | .err c e S => .err c e S
      | .stuck => .stuck
    else .next e S
def forLoop (src : Src) (tg : Tg) (body : Env → Store → F) : Nat → Nat → Env → Store → F
  | 0, _, _, _ => .stuck
  | f + 1, i, e, S => match src.at S i with
    | none => .stuck
    | some none => .next e S
    | some (some v) => match setT tg v e with
      | none => .stuck
      | some e => match body e S with
        | .next e S => forLoop src tg body f (i + 1) e S
        | .cont e S => forLoop src tg body f (i + 1) e S
        | .brk e S => .next e S
        | .ret v S => .ret v S
        | .err c e S => .err c e S
        | .stuck => .stuck
mutual
def evS (G : List Val) (LT : Takers) (W : Nat) (q : Ctx) : IS → Env → Store → F
  | .asg t x, e, S => (evE G LT x q e S).toF e fun v S => match setT t v e with | some e => .next e S | none => .stuck
  | .par i j a b, e, S => (evE G LT a q e S).toF e fun x S => (evE G LT b q e S).toF e fun y S =>
      if i < e.length ∧ j < e.length then .next ((e.set i (some x)).set j (some y)) S else .stuck
  | .sub o k x, e, S => (evE G LT x q e S).toF e fun v S => (evE G LT o q e S).toF e fun ov S => (evE G LT k q e S).toF e fun kv S => match setop ov kv v S with
    | some S => .next e S
    | none => .stuck
  | .ret x, e, S => (evE G LT x q e S).toF e fun v S => .ret v S
  | .expr x, e, S => (evE G LT x q e S).toF e fun _ S => .next e S
  | .ife c a b, e, S => (asB (evE G LT c q e S)).toF e fun t S => if t = true then evB G LT W q a e S else evB G LT W q b e S
  | .whl c b, e, S => whileLoop (fun e S => asB (evE G LT c q e S)) (evB G LT W q b) W e S
  | .for t it b, e, S => (evI G LT it q e S).toF e fun src S => if tgOk src t = false then .stuck else forLoop src t (evB G LT W q b) (src.len S + 1) 0 e S
  | .raise c, e, S => .err c e S
  | .pass, e, S => .next e S
def evB (G : List Val) (LT : Takers) (W : Nat) (q : Ctx) : IB → Env → Store → F
  | .nil, e, S => .next e S
  | .cons s b, e, S => (evS G LT W q s e S).bind fun e S => evB G LT W q b e S
end
structure FnIR where
  np : Nat
  nn : Nat
  body : IB
def runFn (G : List Val) (LT : Takers) (W : Nat) (q : Ctx) (f : FnIR) (args : List Val) (S : Store) : R Val :=
  if args.length = f.np then match evB G LT W q f.body (args.map some ++ List.replicate (f.nn - args.length) none) S with
    | .next _ S => .ok .non S
    | .ret v S => .ok v S
    | .err c _ S => .err c S
    | _ => .stuck
  else .stuck
/-- the defs, allowed that many calls in one another -/
def lev (G : List Val) (LT : Takers) (W : Nat) (fns : List FnIR) : Nat → Bool → Calls
  | 0, _ => fun _ _ _ => .stuck
  | 1, _ => fun _ _ _ => .stuck
  | 2, _ => fun _ _ _ => .stuck
  | k + 3, g => fun f args S => match fns[f]? with
    | some d => runFn G LT W ⟨lev G LT W fns (k + 2) g, lev G LT W fns k false, g⟩ d args S
    | none => .stuck
end Ev
end

section
set_option Elab.async false
set_option linter.all false
/-! EvTr: the translation of the model's trees into the IR. -/
namespace Ev
open PySem

/-- what the translation of a block knows: names by slot, the block's scope, the names of the defs, of the module's constants, of the error classes, of the defs that take a lambda -/
structure TC where
  N : List Str
  sc : Scope
  fns : List Str
  glb : List Str
  cls : List Str
  tks : List Str
def ixOf (x : Str) : List Str → Option Nat
  | [] => none
  | y :: r => if y = x then some 0 else (ixOf x r).map (· + 1)
theorem ixOf_get {x : Str} : ∀ {l : List Str} {i : Nat}, ixOf x l = some i → l[i]? = some x
  | [], _, h => by cases h
  | y :: r, i, h => by
    unfold ixOf at h
    split at h
    · rename_i e
      cases h
      rw [e]
      rfl
    · obtain ⟨j, hj, e⟩ := Option.map_eq_some_iff.mp h
      subst e
      rw [List.getElem?_cons_succ]
      exact ixOf_get hj
def plainName (x : Str) : Bool := !(x == ("__debug__" : Str)) && !(x == ("__classdict__" : Str)) && !(x == ("__name__" : Str))
def locNm (sc : Scope) (x : Str) : Bool := plainName x && (match sc.names.lookup x with
  | some .local => true
  | some .cell => true
  | some .free => true
  | _ => false)
/-- a local or a cell of the block itself -/
def ownNm (sc : Scope) (x : Str) : Bool := match sc.names.lookup x with
  | some .local => true
  | some .cell => true
  | _ => false
def plainLoc (sc : Scope) (x : Str) : Bool := match sc.names.lookup x with
  | some .local => true
  | _ => false
def gloNm (sc : Scope) (x : Str) : Bool := plainName x && (match sc.names.lookup x with
  | some .globalImplicit => true
  | _ => false)
def trOp : Operator → Option Op2
  | .Add => some .add | .Sub => some .sub | .Mult => some .mul | .FloorDiv => some .fdiv | .Mod => some .mod | .Pow => some .pow
  | _ => none
def trCm : CmpOp → Option Cm
  | .Eq => some .eq | .NotEq => some .ne | .Lt => some .lt | .LtE => some .le | .Gt => some .gt | .GtE => some .ge
  | .Is => some .is | .IsNot => some .isnot | .In => some .isin | .NotIn => some .notin
def trBI (x : Str) : Option BI :=
  if x = "len" then some .len else if x = "abs" then some .abs else if x = "int" then some .int else if x = "all" then some .all
  else if x = "tuple" then some .tuple else if x = "list" then some .list else if x = "dict" then some .dict else if x = "sum" then some .sum
  else if x = "sorted" then some .sorted else if x = "repr" then some .repr else none
def trTy (x : Str) : Option Ty :=
  if x = "int" then some .int else if x = "bool" then some .bool else if x = "tuple" then some .tuple else if x = "list" then some .list
  else if x = "str" then some .str else if x = "dict" then some .dict else none
mutual
def trT (T : TC) : Nat → Expr → Option Tg
  | 0, _ => none
  | d + 1, e => match e with
    | .Name x _ => if ownNm T.sc x = true ∧ plainName x = true then (ixOf x T.N).map .name else none
    | .Tuple es _ _ => (trTs T d es).map .tup
    | _ => none
def trTs (T : TC) : Nat → List Expr → Option Tgs
  | 0, _ => none
  | _ + 1, [] => some .nil
  | d + 1, e :: es => (trT T d e).bind fun t => (trTs T d es).map fun ts => .cons t ts
end
def ownOf (N : List Str) (scope : Scope) : List (Str × Nat) := scope.names.filterMap fun y => if (y.2 = .local ∨ y.2 = .cell) then (ixOf y.1 N).map fun i => (y.1, i) else none
mutual
/-- the slots of a target lie in own -/
def tgIn (own : List Nat) : Tg → Bool
  | .name i => decide (i ∈ own)
  | .tup ts => tgsIn own ts
def tgsIn (own : List Nat) : Tgs → Bool
  | .nil => true
  | .cons t ts => tgIn own t && tgsIn own ts
end
/-- the lambda's names, none of its own -/
def lamOk (sc scope : Scope) : Bool := LamX.lamSB sc scope
def notLC : Expr → Bool
  | .ListComp _ _ _ _ => false
  | _ => true
def notCall : Expr → Bool
  | .Call _ _ _ _ => false
  | _ => true
def zipTg : II → Tg → Bool
  | .zip _ _, .name _ => false
  | _, _ => true
mutual
def trE (T : TC) : Nat → Expr → Option IE
  | 0, _ => none
  | d + 1, e => match e with
    | .Constant (.int i) _ _ => some (.cst (.int i))
    | .Constant (.str x) _ _ => some (.cst (.str x))
    | .Constant (.bool b) _ _ => some (.cst (.bl b))
    | .Constant .none _ _ => some (.cst .non)
    | .Name x _ => if locNm T.sc x = true then (ixOf x T.N).map .var else if gloNm T.sc x = true then (ixOf x T.glb).map .glb else none
    | .Tuple es _ _ => (trL T d es).map .tup
    | .List es _ => (trL T d es).map .lst
    | .Dict [] [] _ => some .dnew
    | .BinOp a op b _ => (trOp op).bind fun o => (trE T d a).bind fun x => (trE T d b).map fun y => .bin o x y
    | .UnaryOp .USub a _ => (trE T d a).map .neg
    | .UnaryOp .Not a _ => (trE T d a).map .not
    | .BoolOp .And es _ => trAnd T d es
    | .BoolOp .Or es _ => trOr T d es
    | .Compare a [op] [b] _ => if behindInMarks op b = true then none else (trCm op).bind fun o => (trE T d a).bind fun x => (trE T d b).map fun y => .cmp o x y
    | .Compare a [op, op'] [b, c] _ => if behindInMarks op' c = true then none else (trCm op).bind fun o => (trCm op').bind fun o' => (trE T d a).bind fun x => (trE T d b).bind fun y => (trE T d c).map fun z => .chn o o' x y z
    | .IfExp c a b _ => (trE T d c).bind fun x => (trE T d a).bind fun y => (trE T d b).map fun z => .ife x y z
    | .Subscript a (.Slice none none (some (.UnaryOp .USub (.Constant (.int 1) _ _) _)) _) _ => (trE T d a).map .rev
    | .Subscript a (.Slice lo hi none _) _ => (trE T d a).bind fun x => (trO T d lo).bind fun l => (trO T d hi).map fun h => .slc x l h
    | .Subscript a b _ => (trE T d a).bind fun x => (trE T d b).map fun y => .idx x y
    | .Call (.Name x _) [.Lambda args body scope _] [] _ =>
      if gloNm T.sc x = true ∧ args.posonlyargs.length = 0 ∧ args.args.length = 0 ∧ args.vararg.isNone = true ∧ args.kwonlyargs.length = 0 ∧ args.kw_defaults.length = 0 ∧ args.kwarg.isNone = true ∧ args.defaults.length = 0 ∧ lamOk T.sc scope = true then
        (ixOf x T.tks).bind fun t => (trE { T with sc := scope, tks := [] } d body).map fun b => .lam t b
      else none
    | .Call (.Name x _) args [] _ =>
      if gloNm T.sc x = true then
        match ixOf x T.fns with
        | some f => (trL T d args).map fun es => .call f es
        | none => if x = "isinstance" then
            match args with
            | [a, .Name t _] => if gloNm T.sc t = true then (trTy t).bind fun ty => (trE T d a).map fun y => .isi y ty else none
            | _ => none
          else match args with
            | [a] => (trBI x).bind fun b => (trE T d a).map fun y => .bi b y
            | _ => none
      else none
    | .Call (.Attribute o m apos) args [] cpos =>
      if (apos.endLine == cpos.line) = false ∨ notCall o = false then none else match args with
      | [a] => if m = "append" then (trE T d o).bind fun x => (trE T d a).map fun y => .app x y else none
      | [a, b] => if m = "get" then (trE T d o).bind fun x => (trE T d a).bind fun y => (trE T d b).map fun z => .get2 x y z else none
      | _ => none
    | .ListComp elt [⟨tg, iter, ifs, 0⟩] scope _ =>
      if L2.blkC T.N T.sc scope (ownOf T.N scope) = true then
        (trE { T with sc := scope, tks := [] } d elt).bind fun x => (trT { T with sc := scope, tks := [] } d tg).bind fun t => (trI T d iter).bind fun it =>
        if tgIn ((ownOf T.N scope).map (·.2)) t = false ∨ zipTg it t = false then none else match ifs with
        | [] => some (.lc ((ownOf T.N scope).map (·.2)) x t it .none)
        | [c] => (trE { T with sc := scope, tks := [] } d c).map fun y => .lc ((ownOf T.N scope).map (·.2)) x t it (.some y)
        | _ => none
      else none
    | _ => none
def trL (T : TC) : Nat → List Expr → Option IEs
  | 0, _ => none
  | _ + 1, [] => some .nil
  | d + 1, e :: es => (trE T d e).bind fun x => (trL T d es).map fun xs => .cons x xs
def trO (T : TC) : Nat → Option Expr → Option IO
  | 0, _ => none
  | _ + 1, none => some .none
  | d + 1, some e => (trE T d e).map .some
def trAnd (T : TC) : Nat → List Expr → Option IE
  | 0, _ => none
  | _ + 1, [] => none
  | d + 1, [e] => trE T d e
  | d + 1, e :: es => (trE T d e).bind fun x => (trAnd T d es).map fun y => .and x y
def trOr (T : TC) : Nat → List Expr → Option IE
  | 0, _ => none
  | _ + 1, [] => none
  | d + 1, [e] => trE T d e
  | d + 1, e :: es => (trE T d e).bind fun x => (trOr T d es).map fun y => .or x y
def trI (T : TC) : Nat → Expr → Option II
  | 0, _ => none
  | d + 1, e => match e with
    | .Call (.Name x _) [a] [] _ => if x = "range" ∧ gloNm T.sc x = true then (trE T d a).map .range else (trE T d e).map .seq
    | .Call (.Name x _) [a, b] [] _ => if x = "zip" ∧ gloNm T.sc x = true then (trE T d a).bind fun y => (trE T d b).map fun z => .zip y z else (trE T d e).map .seq
    | e => (trE T d e).map .seq
end
def isTup : Expr → Bool
  | .Tuple _ _ _ => true
  | _ => false
mutual
def trS (T : TC) : Nat → Stmt → Option IS
  | 0, _ => none
  | d + 1, s => match s with
    | .Assign [.Tuple [.Name x px, .Name y py] kt pt] (.Tuple [a, b] kv pv) _ =>
      if plainLoc T.sc x = true ∧ plainLoc T.sc y = true then
        if (x == y) = false ∧ px.line = py.line ∧ foldedForSure 8 a = false ∧ constantsAlone 8 a = false then
          (ixOf x T.N).bind fun i => (ixOf y T.N).bind fun j => (trE T d a).bind fun u => (trE T d b).map fun v => .par i j u v
        else none
      else (trT T d (.Tuple [.Name x px, .Name y py] kt pt)).bind fun t => (trE T d (.Tuple [a, b] kv pv)).map fun v => .asg t v
    | .Assign [.Subscript o k _] e _ => (trE T d o).bind fun x => (trE T d k).bind fun y => (trE T d e).map fun z => .sub x y z
    | .Assign [t] e _ => if isTup t && isTup e then none else (trT T d t).bind fun x => (trE T d e).map fun y => .asg x y
    | .Return (some e) _ => (trE T d e).map .ret
    | .Expr e _ => if notLC e = true then (trE T d e).map .expr else none
    | .If c a b _ => (trE T d c).bind fun x => (trB T d a).bind fun y => (trB T d b).map fun z => .ife x y z
    | .While c b [] _ => (trE T d c).bind fun x => (trB T d b).map fun y => .whl x y
    | .For t it b [] _ => (trT T d t).bind fun x => (trI T d it).bind fun y => if zipTg y x = false then none else (trB T d b).map fun z => .for x y z
    | .Raise (some (.Call (.Name x _) [] [] _)) none _ => if gloNm T.sc x = true then (ixOf x T.cls).map .raise else none
    | .Pass _ => some .pass
    | _ => none
def trB (T : TC) : Nat → List Stmt → Option IB
  | 0, _ => none
  | _ + 1, [] => some .nil
  | d + 1, s :: ss => (trS T d s).bind fun x => (trB T d ss).map fun y => .cons x y
end
end Ev
end

section
set_option Elab.async false
set_option linter.all false
set_option autoImplicit false
set_option maxRecDepth 100000
/-! EvRel: how plain values and stores lie in the layer's heaps; how an evaluation's end is wished for; the operators. -/
namespace Ev
open PySem PySem.Spec PyProof.Rows L2

/-- a tuple of which the very object is known, or one of the written part; it has no dict -/
def TupS (K : PySem.W.Frag) (H : Hp) (a : Addr) (xs : List V) : Prop :=
  (∃ o, H a = some (.frz o (.tup xs)) ∧ o.dict = none) ∨
    ∃ (o : Obj) (its : Array Value) (n : Nat), K.lookup a = some o ∧ o.cls = .type "tuple" ∧ o.dict = none ∧ o.data = .seq its n ∧ its.size ≤ sizeLine ∧ Vals xs its.toList
theorem TupS.sq {K : PySem.W.Frag} {H : Hp} {a : Addr} {xs : List V} (h : TupS K H a xs) : SqT K H a xs := by
  rcases h with ⟨o, h, _⟩ | ⟨o, its, n, h1, h2, _, h3⟩
  · exact .inl (.inr ⟨o, h⟩)
  · exact .inr ⟨o, its, n, h1, h2, h3⟩
/-- a list that nobody writes -/
def LstS (K : PySem.W.Frag) (H : Hp) (a : Addr) (xs : List V) : Prop := (∃ o, H a = some (.frz o (.lst xs))) ∨ ∀ H', SqL K H' a xs
theorem LstS.sq {K : PySem.W.Frag} {H : Hp} {a : Addr} {xs : List V} (h : LstS K H a xs) : SqL K H a xs := by
  rcases h with ⟨o, h⟩ | h
  · exact .inl (.inr ⟨o, h⟩)
  · exact h H
mutual
/-- the plain value lies as x; the objects' addresses are μ -/
inductive VR (K : PySem.W.Frag) (μ : List Addr) (H : Hp) : Val → V → Prop
  | non : VR K μ H .non .non
  | bl (b : Bool) : VR K μ H (.bl b) (.bl b)
  | int (i : Int) : VR K μ H (.int i) (.int i)
  | str (x : Str) : VR K μ H (.str x) (.str x)
  | tup {a : Addr} {xs : List V} {vs : List Val} (h : TupS K H a xs) (r : VRs K μ H vs xs) : VR K μ H (.tup vs) (.ref a)
  | rol {a : Addr} {xs : List V} {vs : List Val} (h : LstS K H a xs) (r : VRs K μ H vs xs) : VR K μ H (.rol vs) (.ref a)
  | obj {n : Nat} {a : Addr} (h : μ[n]? = some a) : VR K μ H (.obj n) (.ref a)
inductive VRs (K : PySem.W.Frag) (μ : List Addr) (H : Hp) : List Val → List V → Prop
  | nil : VRs K μ H [] []
  | cons {v : Val} {x : V} {vs : List Val} {xs : List V} (r : VR K μ H v x) (rs : VRs K μ H vs xs) : VRs K μ H (v :: vs) (x :: xs)
end

/-- later: the objects stay where they are, the tuples stay, and all that is tracked beside the store, but tables -/
structure ExtV (K : PySem.W.Frag) (μ : List Addr) (H : Hp) (μ' : List Addr) (H' : Hp) : Prop where
  ob : ∀ (n : Nat) (a : Addr), μ[n]? = some a → μ'[n]? = some a
  tp : ∀ a xs, TupS K H a xs → TupS K H' a xs
  lp : ∀ a xs, LstS K H a xs → LstS K H' a xs
structure Ext (K : PySem.W.Frag) (μ : List Addr) (H : Hp) (μ' : List Addr) (H' : Hp) : Prop where
  ob : ∀ (n : Nat) (a : Addr), μ[n]? = some a → μ'[n]? = some a
  tp : ∀ a xs, TupS K H a xs → TupS K H' a xs
  lp : ∀ a xs, LstS K H a xs → LstS K H' a xs
  fr : ∀ a o, H a = some o → (∀ ps, o ≠ .tbl ps) → a ∉ μ → H' a = some o
  nw : ∀ a, a ∈ μ' → a ∈ μ ∨ ∀ o, H a = some o → ∃ ps, o = .tbl ps
section
variable {K : PySem.W.Frag} {μ μ1 μ2 : List Addr} {H H1 H2 : Hp}
theorem Ext.v (e : Ext K μ H μ1 H1) : ExtV K μ H μ1 H1 := ⟨e.ob, e.tp, e.lp⟩
theorem Ext.refl : Ext K μ H μ H := ⟨fun _ _ h => h, fun _ _ h => h, fun _ _ h => h, fun _ o h _ _ => h, fun _ h => .inl h⟩
theorem Ext.trans (a : Ext K μ H μ1 H1) (b : Ext K μ1 H1 μ2 H2) : Ext K μ H μ2 H2 := by
  have nx : ∀ x o, H x = some o → (∀ ps, o ≠ .tbl ps) → x ∉ μ → x ∉ μ1 := fun x o h p n z => (a.nw x z).elim n fun w => let ⟨ps, e⟩ := w o h; p ps e
  refine ⟨fun n x h => b.ob n x (a.ob n x h), fun x l h => b.tp x l (a.tp x l h), fun x l h => b.lp x l (a.lp x l h), fun x o h p n => b.fr x o (a.fr x o h p n) p (nx x o h p n), fun x h => ?_⟩
  rcases b.nw x h with z | z
  · exact a.nw x z
  · by_cases n : x ∈ μ
    · exact .inl n
    · refine .inr fun o q => ?_
      refine Classical.byContradiction fun np => ?_
      have p : ∀ ps, o ≠ .tbl ps := fun ps e => np ⟨ps, e⟩
      obtain ⟨ps, e⟩ := z o (a.fr x o q p n)
      exact p ps e
theorem Ext.stay (a : Ext K μ H μ1 H1) {x : Addr} {o : HO} (h : H x = some o) (p : ∀ ps, o ≠ .tbl ps) (n : x ∉ μ) : H1 x = some o := a.fr x o h p n
mutual
theorem VR.extV (e : ExtV K μ H μ1 H1) : ∀ {v : Val} {x : V}, VR K μ H v x → VR K μ1 H1 v x
  | _, _, .non => .non
  | _, _, .bl b => .bl b
  | _, _, .int i => .int i
  | _, _, .str x => .str x
  | _, _, .tup h r => .tup (e.tp _ _ h) (VRs.extV e r)
  | _, _, .rol h r => .rol (e.lp _ _ h) (VRs.extV e r)
  | _, _, .obj h => .obj (e.ob _ _ h)
theorem VRs.extV (e : ExtV K μ H μ1 H1) : ∀ {vs : List Val} {xs : List V}, VRs K μ H vs xs → VRs K μ1 H1 vs xs
  | _, _, .nil => .nil
  | _, _, .cons r rs => .cons (VR.extV e r) (VRs.extV e rs)
end
theorem VR.ext (e : Ext K μ H μ1 H1) {v : Val} {x : V} (r : VR K μ H v x) : VR K μ1 H1 v x := r.extV e.v
theorem VRs.ext (e : Ext K μ H μ1 H1) {vs : List Val} {xs : List V} (r : VRs K μ H vs xs) : VRs K μ1 H1 vs xs := r.extV e.v
theorem VRs.length : ∀ {vs : List Val} {xs : List V}, VRs K μ H vs xs → vs.length = xs.length
  | _, _, .nil => rfl
  | _, _, .cons _ rs => congrArg (· + 1) (VRs.length rs)
theorem VRs.append : ∀ {vs ws : List Val} {xs ys : List V}, VRs K μ H vs xs → VRs K μ H ws ys → VRs K μ H (vs ++ ws) (xs ++ ys)
  | _, _, _, _, .nil, s => s
  | _, _, _, _, .cons r rs, s => .cons r (VRs.append rs s)
theorem VRs.get : ∀ {vs : List Val} {xs : List V} {i : Nat} {v : Val}, VRs K μ H vs xs → vs[i]? = some v → ∃ x, xs[i]? = some x ∧ VR K μ H v x
  | _, _, _, _, .nil, h => by cases h
  | _, _, 0, _, .cons r _, h => by cases h; exact ⟨_, rfl, r⟩
  | _, _, i + 1, _, .cons _ rs, h => VRs.get (i := i) rs h
theorem VRs.get' : ∀ {vs : List Val} {xs : List V} {i : Nat} {x : V}, VRs K μ H vs xs → xs[i]? = some x → ∃ v, vs[i]? = some v ∧ VR K μ H v x
  | _, _, _, _, .nil, h => by cases h
  | _, _, 0, _, .cons r _, h => by cases h; exact ⟨_, rfl, r⟩
  | _, _, i + 1, _, .cons _ rs, h => VRs.get' (i := i) rs h
theorem VRs.set {v : Val} {x : V} (r : VR K μ H v x) : ∀ {vs : List Val} {xs : List V} (i : Nat), VRs K μ H vs xs → VRs K μ H (vs.set i v) (xs.set i x)
  | _, _, _, .nil => .nil
  | _, _, 0, .cons _ rs => .cons r rs
  | _, _, i + 1, .cons q rs => .cons q (VRs.set r i rs)
theorem VRs.take : ∀ {vs : List Val} {xs : List V} (n : Nat), VRs K μ H vs xs → VRs K μ H (vs.take n) (xs.take n)
  | _, _, 0, _ => .nil
  | _, _, _ + 1, .nil => .nil
  | _, _, n + 1, .cons r rs => .cons r (VRs.take n rs)
theorem VRs.drop : ∀ {vs : List Val} {xs : List V} (n : Nat), VRs K μ H vs xs → VRs K μ H (vs.drop n) (xs.drop n)
  | _, _, 0, s => s
  | _, _, _ + 1, .nil => .nil
  | _, _, n + 1, .cons _ rs => VRs.drop n rs
theorem VRs.reverse : ∀ {vs : List Val} {xs : List V}, VRs K μ H vs xs → VRs K μ H vs.reverse xs.reverse
  | _, _, .nil => .nil
  | _, _, .cons r rs => by
    rw [List.reverse_cons, List.reverse_cons]
    exact VRs.append (VRs.reverse rs) (.cons r .nil)
theorem VRs.rep {vs : List Val} {xs : List V} (r : VRs K μ H vs xs) : ∀ n : Nat, VRs K μ H (List.replicate n vs).flatten (List.replicate n xs).flatten
  | 0 => .nil
  | n + 1 => by
    rw [List.replicate_succ, List.replicate_succ, List.flatten_cons, List.flatten_cons]
    exact r.append (VRs.rep r n)
end

/-! ### the store -/
/-- a dict's object, its keys tuples -/
structure DicO (P : Program) (w : World) (o : Obj) (xs : List (NestedKey × Addr × Value)) : Prop where
  ex : o.ExactDict
  dat : ∃ es ep, o.data = .dict es ep ∧ es.toList = xs.map (entryOfKey (nestedKind P w))
  nd : (xs.map (·.1)).Nodup
inductive DicR (K : PySem.W.Frag) (μ : List Addr) (H : Hp) : List (Val × Val) → List (NestedKey × Addr × Value) → Prop
  | nil : DicR K μ H [] []
  | cons {k v : Val} {kk : NestedKey} {a : Addr} {y : V} {u : Value} {kvs : List (Val × Val)} {xs : List (NestedKey × Addr × Value)}
      (hk : keyOf k = some kk) (rk : VR K μ H k (.ref a)) (rv : VR K μ H v y) (ru : RelV y u) (r : DicR K μ H kvs xs) : DicR K μ H ((k, v) :: kvs) ((kk, a, u) :: xs)
theorem DicR.extV {K : PySem.W.Frag} {μ μ1 : List Addr} {H H1 : Hp} (e : ExtV K μ H μ1 H1) : ∀ {kvs : List (Val × Val)} {xs : List (NestedKey × Addr × Value)}, DicR K μ H kvs xs → DicR K μ1 H1 kvs xs
  | _, _, .nil => .nil
  | _, _, .cons hk rk rv ru r => .cons hk (rk.extV e) (rv.extV e) ru (DicR.extV e r)
theorem DicR.ext {K : PySem.W.Frag} {μ μ1 : List Addr} {H H1 : Hp} (e : Ext K μ H μ1 H1) {kvs : List (Val × Val)} {xs : List (NestedKey × Addr × Value)} (r : DicR K μ H kvs xs) : DicR K μ1 H1 kvs xs := r.extV e.v
theorem DicR.length {K : PySem.W.Frag} {μ : List Addr} {H : Hp} : ∀ {kvs : List (Val × Val)} {xs : List (NestedKey × Addr × Value)}, DicR K μ H kvs xs → kvs.length = xs.length
  | _, _, .nil => rfl
  | _, _, .cons _ _ _ _ r => congrArg (· + 1) (DicR.length r)
/-- the very object -/
def ExO (a : Addr) (o : Obj) : HO := .ext fun h => h.get? a = some o
def Cell.mu : Cell → Bool := fun _ => true
def CR (P : Program) (w : World) (K : PySem.W.Frag) (μ : List Addr) (H : Hp) (a : Addr) : Cell → Prop
  | .lst vs => ∃ xs, H a = some (.lst xs) ∧ VRs K μ H vs xs
  | .dic kvs => ∃ o xs, H a = some (ExO a o) ∧ (a == sysModules) = false ∧ kvs.length ≤ sizeLine ∧ DicO P w o xs ∧ DicR K μ H kvs xs
structure StR (P : Program) (w : World) (K : PySem.W.Frag) (T : List (Addr × Str)) (μ : List Addr) (H : Hp) (S : Store) : Prop where
  len : μ.length = S.length
  cel : ∀ (n : Nat) (c : Cell), S[n]? = some c → ∃ a, μ[n]? = some a ∧ CR P w K μ H a c
  nd : ∀ (i j : Nat) (a : Addr) (c c' : Cell), S[i]? = some c → S[j]? = some c' → c.mu = true → c'.mu = true → μ[i]? = some a → μ[j]? = some a → i = j
  tabs : LamX.Tabs T H
section
variable {P : Program} {w : World} {K : PySem.W.Frag} {T : List (Addr × Str)} {μ μ1 : List Addr} {H H1 : Hp} {S : Store} {a p : Addr} {o : HO}
theorem CR.tracked {c : Cell} (h : CR P w K μ H a c) (m : c.mu = true) : ∃ o, H a = some o := by
  cases c with
  | lst vs => obtain ⟨xs, e, _⟩ := h; exact ⟨_, e⟩
  | dic kvs => obtain ⟨o, xs, e, _⟩ := h; exact ⟨_, e⟩
/-- what a cell says stays where its own object stays -/
theorem CR.keep {c : Cell} (h : CR P w K μ H a c) (e : ExtV K μ H μ1 H1) (k : ∀ o, H a = some o → (c.mu = true ∨ ∃ q xs, o = .frz q (.lst xs)) → H1 a = some o) : CR P w K μ1 H1 a c := by
  cases c with
  | lst vs => obtain ⟨xs, q, r⟩ := h; exact ⟨xs, k _ q (.inl rfl), r.extV e⟩
  | dic kvs => obtain ⟨o, xs, q, z, l, d, r⟩ := h; exact ⟨o, xs, k _ q (.inl rfl), z, l, d, r.extV e⟩
theorem lstS_new (hp : H p = none) {b : Addr} {xs : List V} (h : LstS K H b xs) : LstS K (upd H p o) b xs := by
  rcases h with ⟨q, h⟩ | h
  · exact .inl ⟨q, by rw [upd_ne (ne_of_none h hp)]; exact h⟩
  · exact .inr h
theorem tupS_new (hp : H p = none) {b : Addr} {xs : List V} (h : TupS K H b xs) : TupS K (upd H p o) b xs := by
  rcases h with ⟨q, h, d⟩ | h
  · exact .inl ⟨q, by rw [upd_ne (ne_of_none h hp)]; exact h, d⟩
  · exact .inr h
theorem Ext.new (hp : H p = none) : Ext K μ H μ (upd H p o) :=
  ⟨fun _ _ h => h, fun _ _ h => tupS_new hp h, fun _ _ h => lstS_new hp h, fun x u h _ _ => (by rw [upd_ne (ne_of_none h hp)]; exact h), fun _ h => .inl h⟩
theorem Ext.push (hp : H p = none) : Ext K μ H (μ ++ [p]) (upd H p o) :=
  ⟨fun n x h => by rw [List.getElem?_append_left (List.getElem?_eq_some_iff.mp h).1]; exact h, fun _ _ h => tupS_new hp h, fun _ _ h => lstS_new hp h, fun x u h _ _ => (by rw [upd_ne (ne_of_none h hp)]; exact h), fun x h => by
    rcases List.mem_append.mp h with h | h
    · exact .inl h
    · rw [List.mem_singleton.mp h]
      exact .inr fun o e => by rw [hp] at e; cases e⟩
theorem tabs_new (t : LamX.Tabs T H) (hp : H p = none) : LamX.Tabs T (upd H p o) := t.ext fun b u e => by rw [upd_ne (ne_of_none e hp)]; exact e
/-- a new thing beside the store -/
theorem StR.new (s : StR P w K T μ H S) (hp : H p = none) : StR P w K T μ (upd H p o) S := by
  refine ⟨s.len, fun n c h => ?_, s.nd, tabs_new s.tabs hp⟩
  obtain ⟨a, h1, h2⟩ := s.cel n c h
  exact ⟨a, h1, CR.keep h2 (Ext.new hp).v fun u e _ => by rw [upd_ne (ne_of_none e hp)]; exact e⟩
/-- a new cell -/
theorem StR.push (s : StR P w K T μ H S) (hp : H p = none) {c : Cell} (hc : CR P w K (μ ++ [p]) (upd H p o) p c) : StR P w K T (μ ++ [p]) (upd H p o) (S ++ [c]) := by
  have at_ : ∀ (n : Nat) (d : Cell), (S ++ [c])[n]? = some d → S[n]? = some d ∨ (n = S.length ∧ d = c) := fun n d h => by
    by_cases hn : n < S.length
    · rw [List.getElem?_append_left hn] at h
      exact .inl h
    · rw [List.getElem?_append_right (by omega)] at h
      by_cases h0 : n - S.length = 0
      · rw [h0] at h
        cases h
        exact .inr ⟨by omega, rfl⟩
      · rw [List.getElem?_eq_none (by simp; omega)] at h
        cases h
  have m_ : ∀ (n : Nat) (x : Addr), (μ ++ [p])[n]? = some x → n < S.length → μ[n]? = some x := fun n x h hn => by rwa [List.getElem?_append_left (by rw [s.len]; exact hn)] at h
  have mp_ : ∀ (x : Addr), (μ ++ [p])[S.length]? = some x → x = p := fun x h => by
    rw [List.getElem?_append_right (by rw [s.len]; exact Nat.le_refl _), s.len, Nat.sub_self] at h
    cases h
    rfl
  refine ⟨by simp [s.len], fun n d h => ?_, fun i j x d d' h1 h2 m1 m2 e1 e2 => ?_, tabs_new s.tabs hp⟩
  · rcases at_ n d h with h | ⟨n1, n2⟩
    · obtain ⟨x, h1, h2⟩ := s.cel n d h
      exact ⟨x, (Ext.push (K := K) (o := o) hp).ob n x h1, CR.keep h2 (Ext.push hp).v fun u e _ => by rw [upd_ne (ne_of_none e hp)]; exact e⟩
    · subst n1 n2
      refine ⟨p, ?_, hc⟩
      rw [List.getElem?_append_right (by rw [s.len]; exact Nat.le_refl _), s.len, Nat.sub_self]
      rfl
  · have old : ∀ (n : Nat) (d : Cell), S[n]? = some d → d.mu = true → (μ ++ [p])[n]? = some x → x ≠ p := fun n d hd hm hx => by
      obtain ⟨y, h3, h4⟩ := s.cel n d hd
      have e := m_ n x hx (List.getElem?_eq_some_iff.mp hd).1
      rw [h3] at e
      cases e
      obtain ⟨u, hu⟩ := CR.tracked h4 hm
      exact ne_of_none hu hp
    rcases at_ i d h1 with g1 | ⟨i1, i2⟩
    · rcases at_ j d' h2 with g2 | ⟨j1, j2⟩
      · exact s.nd i j x d d' g1 g2 m1 m2 (m_ i x e1 (List.getElem?_eq_some_iff.mp g1).1) (m_ j x e2 (List.getElem?_eq_some_iff.mp g2).1)
      · rw [j1] at e2
        exact absurd (mp_ x e2) (old i d g1 m1 e1)
    · rcases at_ j d' h2 with g2 | ⟨j1, j2⟩
      · rw [i1] at e1
        exact absurd (mp_ x e1) (old j d' g2 m2 e2)
      · rw [i1, j1]
/-- a cell is written -/
theorem Ext.write (m : a ∈ μ) (h : ∀ q u, H a ≠ some (.frz q u)) : Ext K μ H μ (upd H a o) := by
  refine ⟨fun _ _ h => h, fun b xs e => ?_, fun b xs e => ?_, fun x u e _ n => (by rw [upd_ne (fun z : x = a => n (by rw [z]; exact m))]; exact e), fun _ h => .inl h⟩
  · rcases e with ⟨q, e, d⟩ | e
    · exact .inl ⟨q, by rw [upd_ne (fun z : b = a => h q _ (by rw [← z]; exact e))]; exact e, d⟩
    · exact .inr e
  · rcases e with ⟨q, e⟩ | e
    · exact .inl ⟨q, by rw [upd_ne (fun z : b = a => h q _ (by rw [← z]; exact e))]; exact e⟩
    · exact .inr e
theorem tabs_write (t : LamX.Tabs T H) (h1 : ∀ ps, H a ≠ some (.tbl ps)) (h2 : ∀ q, H a ≠ some (LamX.CodeO a q)) : LamX.Tabs T (upd H a o) := fun x hx => by
  obtain ⟨ps, e1, e2, e3⟩ := t x hx
  refine ⟨ps, by rw [upd_ne (fun z : x.1 = a => h1 ps (by rw [← z]; exact e1))]; exact e1, e2, fun pos cv hc => ?_⟩
  obtain ⟨c, e4, e5⟩ := e3 pos cv hc
  exact ⟨c, e4, by rw [upd_ne (fun z : c = a => h2 x.2 (by rw [← z]; exact e5))]; exact e5⟩
theorem StR.write (s : StR P w K T μ H S) {n : Nat} {c c' : Cell} (hn : S[n]? = some c) (ha : μ[n]? = some a) (hm : c.mu = true) (hm' : c'.mu = true)
    (e : Ext K μ H μ (upd H a o)) (t : LamX.Tabs T (upd H a o)) (hc : CR P w K μ (upd H a o) a c') : StR P w K T μ (upd H a o) (S.set n c') := by
  have hlt : n < S.length := (List.getElem?_eq_some_iff.mp hn).1
  have at_ : ∀ (i : Nat) (d : Cell), (S.set n c')[i]? = some d → (i = n ∧ d = c') ∨ (i ≠ n ∧ S[i]? = some d) := fun i d h => by
    by_cases hi : i = n
    · subst hi
      rw [List.getElem?_set_self hlt] at h
      cases h
      exact .inl ⟨rfl, rfl⟩
    · rw [List.getElem?_set_ne (Ne.symm hi)] at h
      exact .inr ⟨hi, h⟩
  refine ⟨by rw [List.length_set]; exact s.len, fun i d h => ?_, fun i j x d d' h1 h2 m1 m2 e1 e2 => ?_, t⟩
  · rcases at_ i d h with ⟨rfl, rfl⟩ | ⟨hi, h⟩
    · exact ⟨a, ha, hc⟩
    · obtain ⟨x, h1, h2⟩ := s.cel i d h
      refine ⟨x, h1, CR.keep h2 e.v fun u q hu => ?_⟩
      obtain ⟨y, z1, z2⟩ := s.cel n c hn
      have ya : a = y := Option.some.inj (ha.symm.trans z1)
      subst ya
      have ne : x ≠ a := fun z => by
        subst z
        exact hi (s.nd i n x d c h hn rfl hm h1 ha)
      rw [upd_ne ne]
      exact q
  · rcases at_ i d h1 with ⟨i1, i2⟩ | ⟨_, g1⟩
    · rcases at_ j d' h2 with ⟨j1, j2⟩ | ⟨_, g2⟩
      · rw [i1, j1]
      · rw [i1] at e1 ⊢
        exact s.nd n j x c d' hn g2 hm m2 e1 e2
    · rcases at_ j d' h2 with ⟨j1, j2⟩ | ⟨_, g2⟩
      · rw [j1] at e2 ⊢
        exact s.nd i n x d c g1 hn m1 hm e1 e2
      · exact s.nd i j x d d' g1 g2 m1 m2 e1 e2
end

/-! ### beside the store -/
section
variable {P : Program} {w : World} {K : PySem.W.Frag} {T : List (Addr × Str)} {μ μ1 : List Addr} {H H1 : Hp} {S : Store} {a p : Addr} {o : HO}
theorem extV_aside {xs : List V} (h : H a = some (.lst xs)) : ExtV K μ H μ (upd H a o) := ⟨fun _ _ h => h, fun b ys e => by
  rcases e with ⟨q, e, d⟩ | e
  · refine .inl ⟨q, ?_, d⟩
    rw [upd_ne (fun z : b = a => by rw [z, h] at e; cases e)]
    exact e
  · exact .inr e, fun b ys e => by
  rcases e with ⟨q, e⟩ | e
  · refine .inl ⟨q, ?_⟩
    rw [upd_ne (fun z : b = a => by rw [z, h] at e; cases e)]
    exact e
  · exact .inr e⟩
theorem Ext.aside {xs : List V} (e : Ext K μ H μ1 H1) (hn : H a = none) (hm : a ∉ μ1) (h : H1 a = some (.lst xs)) : Ext K μ H μ1 (upd H1 a o) := by
  refine ⟨e.ob, fun b ys q => (extV_aside (μ := μ1) h).tp b ys (e.tp b ys q), fun b ys q => (extV_aside (μ := μ1) h).lp b ys (e.lp b ys q), fun x u q p n => ?_, e.nw⟩
  rw [upd_ne (ne_of_none q hn)]
  exact e.fr x u q p n
/-- the cells are tracked -/
theorem StR.tr (s : StR P w K T μ H S) (h : a ∈ μ) : ∃ u, H a = some u := by
  obtain ⟨n, hn⟩ := List.mem_iff_getElem?.mp h
  have hlt : n < S.length := by rw [← s.len]; exact (List.getElem?_eq_some_iff.mp hn).1
  obtain ⟨b, g1, g2⟩ := s.cel n _ (List.getElem?_eq_getElem hlt)
  rw [hn] at g1
  cases g1
  exact CR.tracked g2 rfl
theorem StR.aside {xs : List V} (s : StR P w K T μ H S) (hm : a ∉ μ) (h : H a = some (.lst xs)) : StR P w K T μ (upd H a o) S := by
  refine ⟨s.len, fun n c hn => ?_, s.nd, tabs_write s.tabs (fun ps z => by rw [h] at z; cases z) fun q z => by rw [h] at z; unfold LamX.CodeO at z; cases z⟩
  obtain ⟨b, h1, h2⟩ := s.cel n c hn
  exact ⟨b, h1, CR.keep h2 (extV_aside h) fun u e _ => by rw [upd_ne (fun z : b = a => hm (by rw [← z]; exact List.mem_of_getElem? h1))]; exact e⟩
/-- a list of ours joins the store -/
theorem StR.adopt {vs : List Val} {xs : List V} (s : StR P w K T μ H S) (hm : a ∉ μ) (h : H a = some (.lst xs)) (r : VRs K μ H vs xs) : StR P w K T (μ ++ [a]) H (S ++ [.lst vs]) := by
  have ev : ExtV K μ H (μ ++ [a]) H := ⟨fun n x h => by rw [List.getElem?_append_left (List.getElem?_eq_some_iff.mp h).1]; exact h, fun _ _ h => h, fun _ _ h => h⟩
  have last : (μ ++ [a])[S.length]? = some a := by
    rw [← s.len, List.getElem?_append_right (Nat.le_refl _), Nat.sub_self]
    rfl
  have at_ : ∀ (n : Nat) (d : Cell), (S ++ [.lst vs])[n]? = some d → S[n]? = some d ∨ (n = S.length ∧ d = .lst vs) := fun n d h => by
    by_cases hn : n < S.length
    · rw [List.getElem?_append_left hn] at h
      exact .inl h
    · rw [List.getElem?_append_right (by omega)] at h
      by_cases h0 : n - S.length = 0
      · rw [h0] at h
        cases h
        exact .inr ⟨by omega, rfl⟩
      · rw [List.getElem?_eq_none (by simp; omega)] at h
        cases h
  have m_ : ∀ (n : Nat) (x : Addr), (μ ++ [a])[n]? = some x → n < S.length → μ[n]? = some x := fun n x h hn => by rwa [List.getElem?_append_left (by rw [s.len]; exact hn)] at h
  refine ⟨by simp [s.len], fun n d h => ?_, fun i j x d d' h1 h2 m1 m2 e1 e2 => ?_, s.tabs⟩
  · rcases at_ n d h with h | ⟨n1, n2⟩
    · obtain ⟨x, h1, h2⟩ := s.cel n d h
      exact ⟨x, ev.ob n x h1, CR.keep h2 ev fun u e _ => e⟩
    · subst n1 n2
      exact ⟨a, last, xs, by assumption, r.extV ev⟩
  · rcases at_ i d h1 with g1 | ⟨i1, i2⟩
    · have l1 := (List.getElem?_eq_some_iff.mp g1).1
      rcases at_ j d' h2 with g2 | ⟨j1, j2⟩
      · exact s.nd i j x d d' g1 g2 m1 m2 (m_ i x e1 l1) (m_ j x e2 (List.getElem?_eq_some_iff.mp g2).1)
      · rw [j1, last] at e2
        cases e2
        exact absurd (List.mem_of_getElem? (m_ i _ e1 l1)) hm
    · rcases at_ j d' h2 with g2 | ⟨j1, j2⟩
      · rw [i1, last] at e1
        cases e1
        exact absurd (List.mem_of_getElem? (m_ j _ e2 (List.getElem?_eq_some_iff.mp g2).1)) hm
      · rw [i1, j1]
end

/-! ### tuples laid -/
section
variable {X : Cx} {pins : List (Addr × Obj)} {σ : L2.St} {H : Hp} {s : Shared} {a : Addr} {xs : List V}
/-- an exact tuple object -/
def TupObj (h : Heap) (a : Addr) (its : List Value) : Prop := ∃ o n, h.get? a = some o ∧ o.cls = .type "tuple" ∧ o.dict = none ∧ o.data = .seq its.toArray n
theorem TupObj.isTup {h : Heap} {its : List Value} (t : TupObj h a its) : IsTup h a its.toArray := let ⟨o, n, e, c, _, d⟩ := t; ⟨o, e, c, n, d⟩
theorem tupS_obj (I : Inv X pins σ H s) (h : TupS X.K H a xs) : ∃ its : List Value, Vals xs its ∧ TupObj s.heap a its ∧ xs.length ≤ sizeLine := by
  rcases h with ⟨o, h, d⟩ | ⟨o, its, n, hk, hc, hd, hs, hz, r⟩
  · obtain ⟨e, z, its, r, o2, e2, c2, n2, d2⟩ := (show ObjOk X.prog X.w H s.heap a (.frz o (.tup xs)) from I.hok a _ h)
    rw [e] at e2
    cases e2
    exact ⟨its, r, ⟨o, n2, e, c2, d, d2⟩, z⟩
  · refine ⟨its.toList, r, ⟨o, n, I.kIn a o hk, hc, hd, by simpa using hs⟩, ?_⟩
    have e := r.length
    simp only [Array.length_toList] at e
    omega
/-- a new tuple at the heap's end -/
theorem laid_tup {its : List Value} {t' : Nat} (I : Inv X pins σ H s) (r : Vals xs its) (hz : xs.length ≤ sizeLine) :
    ∃ o : Obj, o.dict = none ∧ Inv X pins σ (upd H s.heap.objs.size (.frz o (.tup xs))) { s with heap := s.heap.push { cls := .type "tuple", data := .seq its.toArray }, toks := t' } :=
  ⟨{ cls := .type "tuple", data := .seq its.toArray }, rfl, I.laid (t' := t') (fun b o e => Heap.get?_push_of_some _ e) (Nat.le_refl _) ⟨Heap.get?_push_size _ rfl, hz, its, r, IsTup.new _ _⟩⟩
end

/-! ### how an evaluation ends, wished for -/
section
variable (P : Program) (w : World) (K : PySem.W.Frag) (T : List (Addr × Str))
/-- a value, any that is related; no error -/
def Aft (μ : List Addr) (H : Hp) (r : R Val) (Q : VK) : Prop :=
  match r with
  | .ok v S => ∀ μ' H' x, Ext K μ H μ' H' → StR P w K T μ' H' S → VR K μ' H' v x → Q x H'
  | _ => False
end
section
variable {P : Program} {w : World} {K : PySem.W.Frag} {T : List (Addr × Str)} {μ μ1 : List Addr} {H H1 : Hp} {S : Store} {Q : VK}
theorem Aft.ext {r : R Val} (h : Aft P w K T μ H r Q) (e : Ext K μ H μ1 H1) : Aft P w K T μ1 H1 r Q := by
  cases r with
  | ok v S => exact fun μ' H' x e' s r => h μ' H' x (e.trans e') s r
  | err c S => exact h
  | stuck => exact h
theorem aft_val {v : Val} {x : V} (h : Aft P w K T μ H (.ok v S) Q) (s : StR P w K T μ H S) (r : VR K μ H v x) : Q x H := h μ H x .refl s r
theorem aft_lst {vs : List Val} {xs : List V} {p : Addr} (h : Aft P w K T μ H (alloc (.lst vs) S) Q) (s : StR P w K T μ H S) (r : VRs K μ H vs xs) (hp : H p = none) : Q (.ref p) (upd H p (.lst xs)) := by
  refine h (μ ++ [p]) _ _ (.push hp) (s.push hp ⟨xs, upd_same, r.ext (.push hp)⟩) (.obj ?_)
  rw [← s.len, List.getElem?_append_right (Nat.le_refl _), Nat.sub_self]
  rfl
theorem aft_tup {vs : List Val} {xs : List V} {p : Addr} {o : Obj} (h : Aft P w K T μ H (.ok (.tup vs) S) Q) (s : StR P w K T μ H S) (r : VRs K μ H vs xs) (hp : H p = none) (d : o.dict = none) : Q (.ref p) (upd H p (.frz o (.tup xs))) :=
  h μ _ _ (.new hp) (s.new hp) (.tup (.inl ⟨o, upd_same, d⟩) (r.ext (.new hp)))
end
end Ev
end

section
set_option Elab.async false
set_option linter.all false
set_option autoImplicit false
set_option maxRecDepth 100000
set_option maxHeartbeats 2000000
/-! EvOps: the operators of the evaluator are the model's. -/
namespace Ev
open PySem PySem.Spec PyProof.Rows L2

theorem cap_line {n : Nat} (h : n ≤ cap) : n ≤ sizeLine := Nat.le_trans h (by decide)
section
variable {X : Cx} {T : List (Addr × Str)}
abbrev StX (X : Cx) (T : List (Addr × Str)) (μ : List Addr) (H : Hp) (S : Store) : Prop := StR X.prog X.w X.K T μ H S
abbrev AfX (X : Cx) (T : List (Addr × Str)) (μ : List Addr) (H : Hp) (r : R Val) (Q : VK) : Prop := Aft X.prog X.w X.K T μ H r Q
theorem cel_at {μ : List Addr} {H : Hp} {S : Store} {n : Nat} {a : Addr} {c : Cell} (s : StX X T μ H S) (hn : S[n]? = some c) (ha : μ[n]? = some a) : CR X.prog X.w X.K μ H a c := by
  obtain ⟨b, h1, h2⟩ := s.cel n c hn
  rw [ha] at h1
  cases h1
  exact h2

/-! ### tuples: +, a slice -/
theorem catF {pins : List (Addr × Obj)} {s : Shared} {σ : L2.St} {H : Hp} {a b : Addr} {xs ys : List V} {v u : Value} {Q : VK} (I : Inv X pins σ H s) (rv : RelV (.ref a) v) (ru : RelV (.ref b) u) (ha : TupS X.K H a xs) (hb : TupS X.K H b ys) (hz : xs.length + ys.length ≤ sizeLine)
    (q0 : xs = [] → Q (.ref b) H) (q1 : xs ≠ [] → ys = [] → Q (.ref a) H) (q2 : xs ≠ [] → ys ≠ [] → ∀ (p : Addr) (o : Obj), o.dict = none → H p = none → Q (.ref p) (upd H p (.frz o (.tup (xs ++ ys))))) :
    wpAny (model X.prog X.w) X.A (binaryOp .Add v u) (EP X pins σ Q) X.xe s := by
  cases rv
  cases ru
  obtain ⟨its, r1, t1, _⟩ := tupS_obj I ha
  obtain ⟨its2, r2, t2, _⟩ := tupS_obj I hb
  have p1 := t1.isTup
  have p2 := t2.isTup
  by_cases hx : xs = []
  · subst hx
    cases r1
    exact cat_tup0 p1 p2 ⟨.ref b, H, I, rfl, q0 rfl⟩
  · refine HT.cat_tup p1 p2 (fun z => hx (r1.nil_iff.mp z)) (fun z => ⟨.ref a, H, I, rfl, q1 hx (r2.nil_iff.mp z)⟩) (fun z => ?_) (by rw [← r1.length, ← r2.length]; exact hz)
    obtain ⟨o, d, J⟩ := laid_tup (t' := s.toks) I (r1.append r2) (by rw [List.length_append]; exact hz)
    exact ⟨.ref s.heap.objs.size, _, J, rfl, q2 hx (fun w => z (r2.nil_iff.mpr w)) _ o d (I.hok.fresh (Nat.le_refl _))⟩
theorem slF {pins : List (Addr × Obj)} {s : Shared} {σ : L2.St} {H : Hp} {a sl : Addr} {xs : List V} {v vl vu : Value} {lo hi : Option Int} {Q : VK} (I : Inv X pins σ H s) (rv : RelV (.ref a) v) (hs : s.heap.IsSliceOf sl vl vu .none) (pl : IsPart vl lo) (pu : IsPart vu hi) (hx : TupS X.K H a xs)
    (q1 : cutV xs lo hi = xs → Q (.ref a) H) (q2 : ∀ (p : Addr) (o : Obj), o.dict = none → H p = none → Q (.ref p) (upd H p (.frz o (.tup (cutV xs lo hi))))) :
    ∃ T id, typeLookup (.type T) "__getitem__" = pure (some (.builtin id)) ∧ s.TypeIs v T ∧ wpAny (model X.prog X.w) X.A (getItem v (.ref sl)) (EP X pins σ Q) X.xe s := by
  cases rv
  obtain ⟨its, r, t1, hz⟩ := tupS_obj I hx
  have ht := t1.isTup
  have hlen : its.toArray.size = xs.length := by rw [List.size_toArray]; exact r.length.symm
  refine ⟨"tuple", _, PyProof.Rows.slot_tuple_getitem.lookup, ht.typeIs, ?_⟩
  by_cases hw : HT.sIx xs.length 0 lo = 0 ∧ HT.sIx xs.length xs.length hi = xs.length
  · refine getItem_tuple_whole ht hs pl pu (by rw [hlen]; exact hw) ⟨.ref a, H, I, rfl, q1 ?_⟩
    unfold cutV
    rw [hw.1, hw.2]
    simp
  · refine HT.getItem_tuple_cut ht hs pl pu (by rw [hlen]; exact hw) ?_ (by rw [hlen]; exact hz)
    rw [hlen]
    obtain ⟨o, d, J⟩ := laid_tup (t' := s.toks) I ((r.drop (HT.sIx xs.length 0 lo)).take (HT.sIx xs.length xs.length hi - HT.sIx xs.length 0 lo)) (Nat.le_trans (cutV_length xs lo hi) hz)
    exact ⟨.ref s.heap.objs.size, _, J, rfl, q2 _ o d (I.hok.fresh (Nat.le_refl _))⟩

/-! ### values as data -/
variable {μ : List Addr} {H : Hp} {S : Store}
theorem mapM_cons' {f : Val → Option PyData} {v : Val} {vs : List Val} {ds : List PyData} (h : (v :: vs).mapM f = some ds) : ∃ d es, f v = some d ∧ vs.mapM f = some es ∧ ds = d :: es := by
  rw [List.mapM_cons] at h
  obtain ⟨d, h1, h⟩ := Option.bind_eq_some_iff.mp h
  obtain ⟨es, h2, h⟩ := Option.bind_eq_some_iff.mp h
  cases h
  exact ⟨d, es, h1, h2, rfl⟩
theorem toDs_dp {P : Program} {w : World} {K : PySem.W.Frag} {d : Nat} (h : ∀ (v : Val) (x : V) (D : PyData), toD S d v = some D → VR K μ H v x → Dp K H x D ∧ D.canLay0 = true ∧ D.depth ≤ d) :
    ∀ (vs : List Val) (xs : List V) (ds : List PyData), vs.mapM (toD S d) = some ds → VRs K μ H vs xs → DpAll K H xs ds ∧ PyData.canLayAll0 ds = true ∧ PyData.depthAll ds ≤ d
  | [], xs, ds, e, r => by
    cases r
    cases e
    exact ⟨.nil, rfl, Nat.zero_le _⟩
  | v :: vs, xs, ds, e, r => by
    obtain ⟨D, es, h1, h2, rfl⟩ := mapM_cons' e
    cases r with
    | cons r rs =>
      obtain ⟨a1, a2, a3⟩ := h v _ D h1 r
      obtain ⟨b1, b2, b3⟩ := toDs_dp (P := P) (w := w) h vs _ es h2 rs
      refine ⟨.cons a1 b1, ?_, ?_⟩
      · rw [PyData.canLayAll0, a2, b2]
        rfl
      · rw [PyData.depthAll]
        exact Nat.max_le.mpr ⟨a3, b3⟩
theorem sqL_of_cell {P : Program} {w : World} {K : PySem.W.Frag} {n : Nat} {a : Addr} {vs : List Val} {c : Cell} (s : StR P w K T μ H S) (hn : S[n]? = some c) (hc : c = .lst vs) (ha : μ[n]? = some a) : ∃ xs, SqL K H a xs ∧ VRs K μ H vs xs := by
  obtain ⟨b, h1, h2⟩ := s.cel n c hn
  rw [ha] at h1
  cases h1
  subst hc
  obtain ⟨xs, e, r⟩ := h2
  exact ⟨xs, SqL.of e, r⟩
theorem toD_dp {P : Program} {w : World} {K : PySem.W.Frag} (s : StR P w K T μ H S) : ∀ (d : Nat) (v : Val) (x : V) (D : PyData), toD S d v = some D → VR K μ H v x → Dp K H x D ∧ D.canLay0 = true ∧ D.depth ≤ d
  | d, .non, x, D, e, r => by
    cases r
    have e : some PyData.none = some D := by cases d <;> exact e
    cases e
    exact ⟨.non, rfl, Nat.zero_le _⟩
  | d, .bl b, x, D, e, r => by
    cases r
    have e : some (PyData.bool b) = some D := by cases d <;> exact e
    cases e
    exact ⟨.bl b, rfl, Nat.zero_le _⟩
  | d, .int i, x, D, e, r => by
    cases r
    have e : some (PyData.int i) = some D := by cases d <;> exact e
    cases e
    exact ⟨.int i, rfl, Nat.zero_le _⟩
  | d, .str y, x, D, e, r => by
    cases r
    have e : (if PyData.strOk y = true then some (PyData.str y) else none) = some D := by cases d <;> exact e
    split at e
    · rename_i hy
      cases e
      exact ⟨.str y, hy, Nat.zero_le _⟩
    · cases e
  | 0, .tup _, x, D, e, r => by cases e
  | 0, .obj _, x, D, e, r => by cases e
  | 0, .rol _, x, D, e, r => by cases e
  | d + 1, .rol vs, x, D, e, r => by
    obtain ⟨ds, h1, rfl⟩ := Option.map_eq_some_iff.mp (show (vs.mapM (toD S d)).map PyData.list = some D from e)
    cases r with
    | rol h rs =>
      obtain ⟨a1, a2, a3⟩ := toDs_dp (P := P) (w := w) (toD_dp s d) vs _ ds h1 rs
      exact ⟨.lst h.sq a1, a2, Nat.succ_le_succ a3⟩
  | d + 1, .tup vs, x, D, e, r => by
    obtain ⟨ds, h1, rfl⟩ := Option.map_eq_some_iff.mp (show (vs.mapM (toD S d)).map PyData.tuple = some D from e)
    cases r with
    | tup h rs =>
      obtain ⟨a1, a2, a3⟩ := toDs_dp (P := P) (w := w) (toD_dp s d) vs _ ds h1 rs
      exact ⟨.tup h.sq a1, a2, Nat.succ_le_succ a3⟩
  | d + 1, .obj n, x, D, e, r => by
    have e : (match S[n]? with
      | some (.lst vs) => (vs.mapM (toD S d)).map PyData.list
      | _ => none) = some D := e
    cases r with
    | obj h =>
      split at e
      · rename_i vs hn
        obtain ⟨ds, h1, rfl⟩ := Option.map_eq_some_iff.mp e
        obtain ⟨xs, q, rs⟩ := sqL_of_cell s hn rfl h
        obtain ⟨a1, a2, a3⟩ := toDs_dp (P := P) (w := w) (toD_dp s d) vs _ ds h1 rs
        exact ⟨.lst q a1, a2, Nat.succ_le_succ a3⟩
      · cases e
theorem toD_shaped {P : Program} {w : World} {K : PySem.W.Frag} (s : StR P w K T μ H S) {v : Val} {x : V} {D : PyData} (e : toD S deepMost v = some D) (r : VR K μ H v x) : Dp K H x D ∧ SeqAt.shaped D = true ∧ D.depth ≤ 12 := by
  obtain ⟨h1, h2, h3⟩ := toD_dp s deepMost v x D e r
  refine ⟨h1, ?_, h3⟩
  unfold SeqAt.shaped
  rw [h2, decide_eq_true (Nat.le_trans h3 (by decide))]
  rfl

/-! ### the two-place operators -/
def rBin (X : Cx) (T : List (Addr × Str)) (o : Op2) : R2 := fun x y H Q => ∃ μ S v u, StX X T μ H S ∧ VR X.K μ H v x ∧ VR X.K μ H u y ∧ AfX X T μ H (binop o v u S) Q
theorem op_bin {op : Operator} {o : Op2} (h : trOp op = some o) : OpR X (binaryOp op) (rBin X T o) := by
  intro pins s σ H x y v u Q I rx ry hq
  obtain ⟨μ, S, a, b, hs, ha, hb, q⟩ := hq
  unfold binop at q
  cases op <;> simp only [trOp, Option.some.injEq, reduceCtorEq] at h <;> subst h
  · -- add
    split at q
    · cases ha; cases hb
      exact op_add pins s σ H _ _ v u Q I rx ry ⟨_, _, rfl, rfl, aft_val q hs (.int _)⟩
    · simp_all
    · simp_all
    · simp_all
    · simp_all
    · simp_all
    · rename_i xs ys _
      split at q
      · rename_i hz
        cases ha with
        | tup h1 r1 =>
          cases hb with
          | tup h2 r2 =>
            refine catF I rx ry h1 h2 (by rw [← r1.length, ← r2.length]; exact cap_line hz) (fun e => ?_) (fun _ e => ?_) (fun _ _ p ob d hp => aft_tup q hs (r1.append r2) hp d)
            · subst e
              cases r1
              exact aft_val q hs (.tup h2 r2)
            · subst e
              cases r2
              rw [List.append_nil] at q
              exact aft_val q hs (.tup h1 r1)
      · exact q.elim
    · rename_i m n _
      cases ha with
      | obj h1 =>
        cases hb with
        | obj h2 =>
          split at q
          · rename_i xs ys hm hn
            split at q
            · rename_i hz
              obtain ⟨vs, e1, r1⟩ := cel_at hs hm h1
              obtain ⟨ws, e2, r2⟩ := cel_at hs hn h2
              exact op_cat pins s σ H _ _ v u Q I rx ry ⟨_, _, _, _, rfl, rfl, e1, e2, by rw [← r1.length, ← r2.length]; exact cap_line hz, fun p hp => aft_lst q hs (r1.append r2) hp⟩
            · exact q.elim
          · exact q.elim
    · simp_all
    · exact q.elim
  · -- sub
    split at q
    all_goals first | exact q.elim | (exfalso; simp_all; done) | skip
    cases ha; cases hb
    exact op_sub pins s σ H _ _ v u Q I rx ry ⟨_, _, rfl, rfl, aft_val q hs (.int _)⟩
  · -- mul
    split at q
    all_goals first | exact q.elim | (exfalso; simp_all; done) | skip
    · split at q
      · rename_i hz
        cases ha; cases hb
        exact op_mulW pins s σ H _ _ v u Q I rx ry ⟨_, _, rfl, rfl, hz, aft_val q hs (.int _)⟩
      · exact q.elim
    · rename_i m k _
      cases hb
      cases ha with
      | obj h1 =>
        split at q
        · rename_i xs hm
          split at q
          · rename_i hz
            obtain ⟨vs, e1, r1⟩ := cel_at hs hm h1
            have hl : vs.length ≤ 1000 := by rw [← r1.length]; exact hz.2.2
            refine op_rep pins s σ H _ _ v u Q I rx ry ⟨_, _, _, rfl, rfl, e1, by omega, by omega, ?_, fun p hp => aft_lst q hs (r1.rep _) hp⟩
            refine Nat.le_trans (Nat.mul_le_mul hl (show k.toNat ≤ 1000 by omega)) (by decide)
          · exact q.elim
        · exact q.elim
  · -- mod
    split at q
    all_goals first | exact q.elim | (exfalso; simp_all; done) | skip
    split at q
    · rename_i hz
      cases ha; cases hb
      exact op_mod pins s σ H _ _ v u Q I rx ry ⟨_, _, rfl, rfl, hz, aft_val q hs (.int _)⟩
    · exact q.elim
  · -- pow
    split at q
    all_goals first | exact q.elim | (exfalso; simp_all; done) | skip
    split at q
    · rename_i hz
      cases ha; cases hb
      exact op_pow pins s σ H _ _ v u Q I rx ry ⟨_, _, rfl, rfl, ⟨hz.1.1, hz.1.2, hz.2⟩, aft_val q hs (.int _)⟩
    · exact q.elim
  · -- fdiv
    split at q
    all_goals first | exact q.elim | (exfalso; simp_all; done) | skip
    split at q
    · rename_i hz
      cases ha; cases hb
      exact op_fdivW pins s σ H _ _ v u Q I rx ry ⟨_, _, rfl, rfl, hz, aft_val q hs (.int _)⟩
    · exact q.elim

/-! ### comparisons -/
def rCmp (X : Cx) (T : List (Addr × Str)) (o : Cm) : R2 := fun x y H Q => ∃ μ S v u b, StX X T μ H S ∧ VR X.K μ H v x ∧ VR X.K μ H u y ∧ cmpV o S v u = some b ∧ Q (.bl b) H
theorem isV_non {K : PySem.W.Frag} {a b : Val} {x y : V} {c : Bool} (h : isV a b = some c) (ra : VR K μ H a x) (rb : VR K μ H b y) : (y = .non ∧ c = decide (x = .non)) ∨ ∃ p q, x = .bl p ∧ y = .bl q ∧ c = decide (p = q) := by
  unfold isV at h
  split at h
  · cases ra; cases rb; cases h
    exact .inl ⟨rfl, rfl⟩
  · rename_i hn
    cases rb
    refine .inl ⟨rfl, ?_⟩
    cases h
    cases ra with
    | non => exact absurd rfl hn
    | bl b => rfl
    | int i => rfl
    | str x => rfl
    | tup _ _ => rfl
    | rol _ _ => rfl
    | obj _ => rfl
  · cases ra; cases rb; cases h
    exact .inr ⟨_, _, rfl, rfl, rfl⟩
  · cases h
theorem key_all {s : Shared} {d : Nat} (f : ∀ (v : Val) (x : V) (u : Value) (k : NestedKey), keyP d v = some k → VR X.K μ H v x → RelV x u → NestedIs s.heap k u ∧ k.depth ≤ d) :
    ∀ (vs : List Val) (xs : List V) (us : List Value) (ks : List NestedKey), vs.mapM (keyP d) = some ks → VRs X.K μ H vs xs → Vals xs us → NestedAll s.heap ks us ∧ NestedKey.depthAll ks ≤ d
  | [], xs, us, ks, e, r, l => by
    cases r
    cases l
    cases e
    exact ⟨.nil, Nat.zero_le _⟩
  | v :: vs, xs, us, ks, e, r, l => by
    rw [List.mapM_cons] at e
    obtain ⟨k, h1, e⟩ := Option.bind_eq_some_iff.mp e
    obtain ⟨es, h2, e⟩ := Option.bind_eq_some_iff.mp e
    cases e
    cases r with
    | cons r rs =>
      cases l with
      | cons l ls =>
        obtain ⟨a1, a2⟩ := f v _ _ k h1 r l
        obtain ⟨b1, b2⟩ := key_all f vs _ _ es h2 rs ls
        exact ⟨.cons a1 b1, by rw [NestedKey.depthAll]; exact Nat.max_le.mpr ⟨a2, b2⟩⟩
theorem key_is {pins : List (Addr × Obj)} {s : Shared} {σ : L2.St} (I : Inv X pins σ H s) : ∀ (d : Nat) (v : Val) (x : V) (u : Value) (k : NestedKey), keyP d v = some k → VR X.K μ H v x → RelV x u → NestedIs s.heap k u ∧ k.depth ≤ d
  | d, .non, x, u, k, e, r, l => by
    cases r
    cases l
    have e : some NestedKey.none = some k := by cases d <;> exact e
    cases e
    exact ⟨.none, Nat.zero_le _⟩
  | d, .int i, x, u, k, e, r, l => by
    cases r
    obtain ⟨t, rfl⟩ := l
    have e : some (NestedKey.num i) = some k := by cases d <;> exact e
    cases e
    exact ⟨.int i t, Nat.zero_le _⟩
  | d, .str y, x, u, k, e, r, l => by
    cases r
    obtain ⟨t, rfl⟩ := l
    have e : some (NestedKey.text y) = some k := by cases d <;> exact e
    cases e
    exact ⟨.text y t, Nat.zero_le _⟩
  | d, .bl b, x, u, k, e, r, l => by cases d <;> cases e
  | d, .obj b, x, u, k, e, r, l => by cases d <;> cases e
  | d, .rol b, x, u, k, e, r, l => by cases d <;> cases e
  | 0, .tup vs, x, u, k, e, r, l => by cases e
  | d + 1, .tup vs, x, u, k, e, r, l => by
    obtain ⟨ks, h1, rfl⟩ := Option.map_eq_some_iff.mp (show (vs.mapM (keyP d)).map NestedKey.tup = some k from e)
    cases r with
    | tup h rs =>
      cases l
      obtain ⟨its, r2, ⟨o, n, e1, e2, e3, e4⟩, _⟩ := tupS_obj I h
      obtain ⟨a1, a2⟩ := key_all (key_is I d) vs _ _ ks h1 rs r2
      exact ⟨.tup e1 e2 e4 (by simpa using a1), Nat.succ_le_succ a2⟩
theorem keyOf_is {pins : List (Addr × Obj)} {s : Shared} {σ : L2.St} (I : Inv X pins σ H s) {v : Val} {x : V} {k : NestedKey} (e : keyOf v = some k) (r : VR X.K μ H v x) : ∃ a, x = .ref a ∧ (nestedKind X.prog X.w).is s.heap k a := by
  unfold keyOf at e
  split at e
  · cases r with
    | tup h rs =>
      obtain ⟨a1, a2⟩ := key_is I 6 _ _ (.ref _) k e (.tup h rs) rfl
      exact ⟨_, rfl, a1, Nat.le_trans a2 (by decide)⟩
  · cases e
/-- the dict as the library says it -/
theorem dic_of {pins : List (Addr × Obj)} {s : Shared} {σ : L2.St} (I : Inv X pins σ H s) {a : Addr} {o : Obj} {kvs : List (Val × Val)} {xs : List (NestedKey × Addr × Value)} (ha : H a = some (ExO a o)) (d : DicO X.prog X.w o xs) (r : DicR X.K μ H kvs xs) :
    s.heap.DictOfH (nestedKind X.prog X.w) a xs := by
  obtain ⟨e1, _, _⟩ := (show ObjOk X.prog X.w H s.heap a (ExO a o) from I.hok a _ ha)
  obtain ⟨es, ep, h1, h2⟩ := d.dat
  refine ⟨o, es, ep, e1, d.ex, h1, h2, ?_, d.nd⟩
  clear ha d h1 h2 e1
  induction r with
  | nil => exact fun x hx => absurd hx (by simp)
  | cons hk rk rv ru r ih =>
    intro x hx
    rcases List.mem_cons.mp hx with rfl | hx
    · obtain ⟨b, e, z⟩ := keyOf_is I hk rk
      cases e
      exact z
    · exact ih x hx
theorem look_at {K : PySem.W.Frag} {kvs : List (Val × Val)} {xs : List (NestedKey × Addr × Value)} (r : DicR K μ H kvs xs) (k : NestedKey) :
    (∀ v, look kvs k = some v → ∃ b u y, atKey xs k = some (b, u) ∧ RelV y u ∧ VR K μ H v y) ∧ (look kvs k = none → atKey xs k = none) := by
  induction r with
  | nil =>
    refine ⟨fun v h => ?_, fun _ => rfl⟩
    have h : (none : Option Val) = some v := h
    cases h
  | @cons k1 v1 kk a y u kvs xs hk rk rv ru r ih =>
    unfold look atKey at ih ⊢
    rw [List.find?_cons, List.find?_cons]
    by_cases h : kk = k
    · have e1 : decide (keyOf (k1, v1).1 = some k) = true := decide_eq_true (by rw [← h]; exact hk)
      have e2 : decide ((kk, a, u).1 = k) = true := decide_eq_true h
      rw [e1, e2]
      exact ⟨fun v h => by cases h; exact ⟨_, _, _, rfl, ru, rv⟩, fun h => by cases h⟩
    · have e1 : decide (keyOf (k1, v1).1 = some k) = false := decide_eq_false (fun e => h (Option.some.inj (hk.symm.trans e)))
      have e2 : decide ((kk, a, u).1 = k) = false := decide_eq_false h
      rw [e1, e2]
      exact ih
theorem look_isSome {K : PySem.W.Frag} {kvs : List (Val × Val)} {xs : List (NestedKey × Addr × Value)} (r : DicR K μ H kvs xs) (k : NestedKey) : (look kvs k).isSome = (atKey xs k).isSome := by
  obtain ⟨h1, h2⟩ := look_at r k
  cases e : look kvs k with
  | none => rw [h2 e]; rfl
  | some v =>
    obtain ⟨b, u, y, e2, _⟩ := h1 v e
    rw [e2]
    rfl
theorem op_cmp {op : CmpOp} {o : Cm} (hu : X.A.units + 100 < cLine) (h : trCm op = some o) : OpR X (compareOp op) (rCmp X T o) := by
  intro pins s σ H x y v u Q I rx ry hq
  obtain ⟨μ, S, a, b, c, hs, ha, hb, hc, q⟩ := hq
  have hroom : (nestedKind X.prog X.w).room X.A.in1 := by show X.A.units + 1 + 8 < cLine; omega
  have lt_ : ∀ {c}, ltD S a b = some c → Q (.bl c) H → wpAny (model X.prog X.w) X.A (compareOp .Lt v u) (EP X pins σ Q) X.xe s := fun {c} hc q => by
    unfold ltD at hc
    split at hc
    · cases ha; cases hb; cases hc
      exact op_lt pins s σ H _ _ v u Q I rx ry ⟨_, _, rfl, rfl, q⟩
    · split at hc
      · rename_i d e hd he
        split at hc
        · rename_i hal
          cases hc
          obtain ⟨d1, _, d3⟩ := toD_shaped hs hd ha
          obtain ⟨e1, _, _⟩ := toD_shaped hs he hb
          obtain ⟨as, r1⟩ := Dp.reads I d x v d1 rx
          obtain ⟨bs, r2⟩ := Dp.reads I e y u e1 ry
          refine PySem.W.rcLt_alike d e X.A s v u as bs r1 r2 hal (fun z => ?_) ?_ X.prog X.w X.xe _ ⟨.bl _, H, I, rfl, q⟩
          · subst z
            cases d1
            cases ha
          · have : min d.depth e.depth ≤ 12 := Nat.le_trans (Nat.min_le_left _ _) d3
            omega
        · cases hc
      · cases hc
    · cases hc
  cases op <;> simp only [trCm, Option.some.injEq, reduceCtorEq] at h <;> subst h
  · have hc : eqD S a b = some c := hc
    unfold eqD at hc
    split at hc
    · rename_i d e hd he
      cases hc
      obtain ⟨d1, d2, d3⟩ := toD_shaped hs hd ha
      obtain ⟨e1, e2, _⟩ := toD_shaped hs he hb
      exact op_eqD (by omega) pins s σ H x y v u Q I rx ry ⟨d, e, d1, e1, d2, e2, q⟩
    · cases hc
  · obtain ⟨c', hc', rfl⟩ := Option.map_eq_some_iff.mp (show (eqD S a b).map (!·) = some c from hc)
    unfold eqD at hc'
    split at hc'
    · rename_i d e hd he
      cases hc'
      obtain ⟨d1, d2, d3⟩ := toD_shaped hs hd ha
      obtain ⟨e1, e2, _⟩ := toD_shaped hs he hb
      exact op_neD (by omega) pins s σ H x y v u Q I rx ry ⟨d, e, d1, e1, d2, e2, q⟩
    · cases hc'
  · exact lt_ hc q
  · have hc : leV a b = some c := hc
    unfold leV at hc
    split at hc
    · cases ha; cases hb; cases hc
      exact op_le pins s σ H _ _ v u Q I rx ry ⟨_, _, rfl, rfl, q⟩
    · cases hc
  · have hc : gtV a b = some c := hc
    unfold gtV at hc
    split at hc
    · cases ha; cases hb; cases hc
      exact op_gt pins s σ H _ _ v u Q I rx ry ⟨_, _, rfl, rfl, q⟩
    · cases hc
  · have hc : geV a b = some c := hc
    unfold geV at hc
    split at hc
    · cases ha; cases hb; cases hc
      exact op_ge pins s σ H _ _ v u Q I rx ry ⟨_, _, rfl, rfl, q⟩
    · cases hc
  · rcases isV_non hc ha hb with ⟨rfl, rfl⟩ | ⟨p, r, rfl, rfl, rfl⟩
    · exact op_isN pins s σ H _ _ v u Q I rx ry ⟨rfl, q⟩
    · exact op_is_bl pins s σ H _ _ v u Q I rx ry ⟨_, _, rfl, rfl, q⟩
  · obtain ⟨c', hc', rfl⟩ := Option.map_eq_some_iff.mp (show (isV a b).map (!·) = some c from hc)
    rcases isV_non hc' ha hb with ⟨rfl, rfl⟩ | ⟨p, r, rfl, rfl, rfl⟩
    · exact op_notN pins s σ H _ _ v u Q I rx ry ⟨rfl, q⟩
    · exact op_isnot_bl pins s σ H _ _ v u Q I rx ry ⟨_, _, rfl, rfl, q⟩
  · have hc : inV S a b = some c := hc
    unfold inV at hc
    split at hc
    · rename_i n k hk _
      split at hc
      · rename_i kvs hn
        cases hc
        cases hb with
        | obj h1 =>
          obtain ⟨o, xs, e1, e2, _, e3, e4⟩ := cel_at hs hn h1
          obtain ⟨b, rfl, hkey⟩ := keyOf_is I hk ha
          cases rx; cases ry
          refine wpAny_in_heap hroom hkey e2 (dic_of I e1 e3 e4) ⟨.bl _, H, I.tok _, rfl, ?_⟩
          rw [← look_isSome e4]
          exact q
      · cases hc
    · cases hc
  · obtain ⟨c', hc', rfl⟩ := Option.map_eq_some_iff.mp (show (inV S a b).map (!·) = some c from hc)
    unfold inV at hc'
    split at hc'
    · rename_i n k _ hk
      split at hc'
      · rename_i kvs hn
        cases hc'
        cases hb with
        | obj h1 =>
          obtain ⟨o, xs, e1, e2, _, e3, e4⟩ := cel_at hs hn h1
          obtain ⟨b, rfl, hkey⟩ := keyOf_is I hk ha
          cases rx; cases ry
          refine notIn_keyed hroom hkey e2 ⟨xs, dic_of I e1 e3 e4, rfl⟩ ⟨.bl _, H, I.tok _, rfl, ?_⟩
          rw [valueAt_pairsH, Option.isSome_map, ← look_isSome e4]
          exact q
      · cases hc'
    · cases hc'
end
end Ev
end

section
set_option Elab.async false
set_option linter.all false
set_option autoImplicit false
set_option maxRecDepth 100000
set_option maxHeartbeats 2000000
/-! EvBi: subscripts, slices, stores, built-in functions and methods of the evaluator are the model's. -/
namespace Ev
open PySem PySem.Spec PyProof.Rows L2
section
variable {X : Cx} {T : List (Addr × Str)} {μ : List Addr} {H : Hp} {S : Store}
theorem seq_get {v : Val} {x : V} {vs : List Val} (s : StX X T μ H S) (e : seqOf S v = some vs) (r : VR X.K μ H v x) : ∃ a xs, x = .ref a ∧ VRs X.K μ H vs xs ∧ ((TupS X.K H a xs ∧ v = .tup vs) ∨ (SqL X.K H a xs ∧ ((∃ n, v = .obj n) ∨ v = .rol vs))) := by
  unfold seqOf at e
  split at e
  · cases e
    cases r with
    | tup h rs => exact ⟨_, _, rfl, rs, .inl ⟨h, rfl⟩⟩
  · cases e
    cases r with
    | rol h rs => exact ⟨_, _, rfl, rs, .inr ⟨h.sq, .inr rfl⟩⟩
  · cases r with
    | obj h =>
      split at e
      · rename_i hn
        cases e
        obtain ⟨xs, q, rs⟩ := sqL_of_cell s hn rfl h
        exact ⟨_, _, rfl, rs, .inr ⟨q, .inl ⟨_, rfl⟩⟩⟩
      · cases e
  · cases e

/-! ### a[b] -/
def rIdx (X : Cx) (T : List (Addr × Str)) : R2 := fun x y H Q => ∃ μ S v u, StX X T μ H S ∧ VR X.K μ H v x ∧ VR X.K μ H u y ∧ AfX X T μ H (idxop v u S) Q
theorem at_rel {K : PySem.W.Frag} {vs : List Val} {xs : List V} {i : Int} {v : Val} (r : VRs K μ H vs xs) (e : atI vs i = some v) : ∃ x, atI xs i = some x ∧ VR K μ H v x := by
  unfold atI at e ⊢
  rw [← r.length]
  obtain ⟨j, h1, h2⟩ := Option.bind_eq_some_iff.mp e
  obtain ⟨x, h3, h4⟩ := r.get h2
  exact ⟨x, by rw [h1]; exact h3, h4⟩
theorem ix_any (hu : X.A.units + 100 < cLine) : IxR X (rIdx X T) := by
  intro value slice pins s σ H x y v u Q I rx ry hq hsl
  obtain ⟨μ, S, a, b, hs, ha, hb, q⟩ := hq
  unfold idxop at q
  split at q
  · split at q
    · rename_i vs hv
      split at q
      · rename_i w hw
        obtain ⟨p, xs, rfl, rs, h⟩ := seq_get hs hv ha
        cases hb
        obtain ⟨z, hz, rz⟩ := at_rel rs hw
        rcases h with ⟨h, _⟩ | ⟨h, _⟩
        · exact ix_tup value slice pins s σ H _ _ v u Q I rx ry ⟨p, xs, _, z, rfl, rfl, h.sq, hz, aft_val q hs rz⟩ hsl
        · exact ix_list value slice pins s σ H _ _ v u Q I rx ry ⟨p, xs, _, z, rfl, rfl, h, hz, aft_val q hs rz⟩ hsl
      · exact q.elim
    · exact q.elim
  · split at q
    · rename_i n k hk _
      split at q
      · rename_i kvs hn
        split at q
        · rename_i w hw
          cases ha with
          | obj h1 =>
            obtain ⟨o, xs, e1, e2, _, e3, e4⟩ := cel_at hs hn h1
            obtain ⟨c, rfl, hkey⟩ := keyOf_is I (by assumption) hb
            obtain ⟨_, uu, yy, g1, g2, g3⟩ := (look_at e4 _).1 _ hw
            cases rx; cases ry
            have D := dic_of I e1 e3 e4
            refine subscriptTail_builtinR (x := uu) D.typeIs PySem.F.slot_dict_getitem.lookup ?_ hsl
            exact wpAny_getItem_heap (Q := fun r s' => r = uu ∧ EP X pins σ Q r s') (by show X.A.units + 1 + 8 < cLine; omega) hkey D g1 ⟨rfl, yy, H, I.tok _, g2, aft_val q hs g3⟩
        · exact q.elim
      · exact q.elim
    · exact q.elim
  · exact q.elim

/-! ### a[lo:hi] -/
def rSlc (X : Cx) (T : List (Addr × Str)) : V → Option Int → Option Int → Hp → VK → Prop := fun x lo hi H Q => ∃ μ S v, StX X T μ H S ∧ VR X.K μ H v x ∧ AfX X T μ H (slcop v lo hi S) Q
theorem cut_rel {K : PySem.W.Frag} {vs : List Val} {xs : List V} {lo hi : Option Int} (r : VRs K μ H vs xs) : VRs K μ H (cut vs lo hi) (cutV xs lo hi) := by
  unfold cut cutV
  rw [r.length]
  exact (r.drop _).take _
theorem sl_any : SlR X (rSlc X T) := by
  intro pins s σ H x v vl vu lo hi sl Q I rx hsl pl pu hq
  obtain ⟨μ, S, a, hs, ha, q⟩ := hq
  unfold slcop at q
  split at q
  · cases ha with
    | tup h rs =>
      refine slF I rx hsl pl pu h (fun e => aft_val q hs (.tup (show TupS X.K H _ (cutV _ lo hi) from by rw [e]; exact h) (cut_rel rs))) fun p o d hp => aft_tup q hs (cut_rel rs) hp d
  · rename_i hnt
    split at q
    · rename_i vs hv
      obtain ⟨p, xs, rfl, rs, h⟩ := seq_get hs hv ha
      rcases h with ⟨_, rfl⟩ | ⟨h, _⟩
      · exact absurd rfl (hnt vs)
      · exact sl_list pins s σ H _ v vl vu lo hi sl Q I rx hsl pl pu ⟨p, xs, rfl, h, fun l hl => aft_lst q hs (cut_rel rs) hl⟩
    · exact q.elim

/-! ### stores -/
theorem look_none_any {K : PySem.W.Frag} {kvs : List (Val × Val)} {xs : List (NestedKey × Addr × Value)} (r : DicR K μ H kvs xs) (k : NestedKey) : (kvs.any fun p => decide (keyOf p.1 = some k)) = (atKey xs k).isSome := by
  rw [← look_isSome r]
  unfold look
  rw [Option.isSome_map, Bool.eq_iff_iff, List.find?_isSome, List.any_eq_true]
theorem put_rel {K : PySem.W.Frag} {kvs : List (Val × Val)} {xs : List (NestedKey × Addr × Value)} (r : DicR K μ H kvs xs) {k v : Val} {kk : NestedKey} {a : Addr} {y : V} {u : Value} (hk : keyOf k = some kk) (rk : VR K μ H k (.ref a)) (rv : VR K μ H v y) (ru : RelV y u) :
    DicR K μ H (putd kvs kk k v) (storedH xs kk a u) := by
  unfold putd storedH
  rw [look_none_any r]
  by_cases h : (atKey xs kk).isSome = true
  · rw [if_pos h, if_pos h]
    clear h
    induction r with
    | nil => exact .nil
    | @cons k1 v1 kk1 a1 y1 u1 kvs xs h1 h2 h3 h4 r ih =>
      rw [List.map_cons, List.map_cons]
      by_cases e : kk1 = kk
      · have e' : keyOf (k1, v1).1 = some kk := by rw [← e]; exact h1
        rw [if_pos e']
        unfold putAt
        rw [if_pos e]
        exact .cons h1 h2 rv ru ih
      · have e' : ¬ keyOf (k1, v1).1 = some kk := fun z => e (Option.some.inj (h1.symm.trans z))
        rw [if_neg e']
        unfold putAt
        rw [if_neg e]
        exact .cons h1 h2 h3 h4 ih
  · rw [if_neg h, if_neg h]
    clear h
    induction r with
    | nil => exact .cons hk rk rv ru .nil
    | cons h1 h2 h3 h4 r ih => exact .cons h1 h2 h3 h4 ih
/-- the dict's object as it now is -/
theorem dicO_of {h : Heap} {d : Addr} {xs : List (NestedKey × Addr × Value)} (m : h.DictOfH (nestedKind X.prog X.w) d xs) : ∃ o, h.get? d = some o ∧ DicO X.prog X.w o xs :=
  let ⟨o, es, ep, h1, h2, h3, h4, _, h5⟩ := m; ⟨o, h1, h2, ⟨es, ep, h3, h4⟩, h5⟩
theorem exO_ok {H : Hp} {h : Heap} {a : Addr} {o : Obj} (e : h.get? a = some o) : ObjOk X.prog X.w H h a (ExO a o) := ⟨e, ⟨o, e⟩, fun h1 h2 q k => k o q⟩
theorem ext_dic {K : PySem.W.Frag} {a : Addr} {o : Obj} {u : HO} (m : a ∈ μ) (e : H a = some (ExO a o)) : Ext K μ H μ (upd H a u) := Ext.write m fun q xs z => by rw [e] at z; unfold ExO at z; cases z
theorem ext_lst {K : PySem.W.Frag} {a : Addr} {xs : List V} {u : HO} (m : a ∈ μ) (e : H a = some (.lst xs)) : Ext K μ H μ (upd H a u) := Ext.write m fun q xs z => by rw [e] at z; cases z
theorem tabs_lst {a : Addr} {xs : List V} {u : HO} (t : LamX.Tabs T H) (e : H a = some (.lst xs)) : LamX.Tabs T (upd H a u) := tabs_write t (fun ps z => by rw [e] at z; cases z) fun q z => by rw [e] at z; unfold LamX.CodeO at z; cases z
theorem tabs_dic {pins : List (Addr × Obj)} {s : Shared} {σ : L2.St} (I : Inv X pins σ H s) {a : Addr} {o : Obj} {xs : List (NestedKey × Addr × Value)} {u : HO} (t : LamX.Tabs T H) (e : H a = some (ExO a o)) (d : DicO X.prog X.w o xs) : LamX.Tabs T (upd H a u) :=
  tabs_write t (fun ps z => by rw [e] at z; unfold ExO at z; cases z) fun q z => by
    obtain ⟨⟨oc, vs, t, h1, h2, _⟩, _⟩ := (show ObjOk X.prog X.w H s.heap a (LamX.CodeO a q) from I.hok a _ z)
    obtain ⟨h3, _, _⟩ := (show ObjOk X.prog X.w H s.heap a (ExO a o) from I.hok a _ e)
    rw [h3] at h1
    cases h1
    obtain ⟨es, ep, h4, _⟩ := d.dat
    rw [h2] at h4
    cases h4
/-- o[k] = v, by values -/
def rSetV (X : Cx) (T : List (Addr × Str)) : TSet := fun x y z H Q => ∃ μ S S' o k v, StX X T μ H S ∧ VR X.K μ H o x ∧ VR X.K μ H k y ∧ VR X.K μ H v z ∧ setop o k v S = some S' ∧ ∀ H', Ext X.K μ H μ H' → StX X T μ H' S' → Q H'
theorem set_any (hu : X.A.units + 100 < cLine) : PSet X (rSetV X T) := by
  intro pins s σ H x y z ov iv u Q I rx ry rz hq
  obtain ⟨μ, S, S', a, b, c, hs, ha, hb, hc, e, q⟩ := hq
  unfold setop at e
  split at e
  · rename_i n
    cases ha with
    | obj h1 =>
      split at e
      · rename_i vs i hn
        split at e
        · rename_i j hj
          cases e
          cases hb
          obtain ⟨xs, e1, rs⟩ := cel_at hs hn h1
          refine set_list pins s σ H _ _ z ov iv u Q I rx ry rz ⟨_, _, _, j, rfl, rfl, e1, by rw [← rs.length]; exact hj, q _ (ext_lst (List.mem_of_getElem? h1) e1) (hs.write hn h1 rfl rfl (ext_lst (List.mem_of_getElem? h1) e1) (tabs_lst hs.tabs e1) ⟨_, upd_same, (VRs.set hc j rs).ext (ext_lst (List.mem_of_getElem? h1) e1)⟩)⟩
        · cases e
      · rename_i kvs ks hn
        split at e
        · rename_i kk hk
          split at e
          · rename_i hlen
            cases e
            obtain ⟨o, xs, e1, e2, e3, e4, e5⟩ := cel_at hs hn h1
            obtain ⟨p, rfl, hkey⟩ := keyOf_is I hk hb
            cases rx; cases ry
            have hl : kvs.length = xs.length := e5.length
            refine wpAny_setItem_heap (knd := nestedKind X.prog X.w) (by show X.A.units + 1 + 8 < cLine; omega) hkey (dic_of I e1 e4 e5) (fun h' hd hsb => ?_) (by rw [← hl]; exact e3)
            obtain ⟨o', ho', d'⟩ := dicO_of hd
            have rp := put_rel e5 hk hb hc rz
            have I' : Inv X pins σ (upd H _ (ExO _ o')) { s with heap := h', toks := s.toks + (nestedKind X.prog X.w).draws kk } :=
              I.write (t' := s.toks + (nestedKind X.prog X.w).draws kk) (by rw [e1]; exact True.intro) (.inl rfl) (fun b u hb q => (hsb.2 b hb).trans q) ⟨_, ho'⟩ (exO_ok ho')
            refine ⟨_, I', q _ (ext_dic (List.mem_of_getElem? h1) e1) (hs.write hn h1 rfl rfl (ext_dic (List.mem_of_getElem? h1) e1) (tabs_dic I hs.tabs e1 e4) ⟨o', _, upd_same, e2, ?_, d', rp.ext (ext_dic (List.mem_of_getElem? h1) e1)⟩)⟩
            have h9 := rp.length
            have h8 := storedH_length xs kk p u
            have h7 : kvs.length < cap := hlen
            have h6 : cap + 1 ≤ sizeLine := by decide
            omega
          · cases e
        · cases e
      · cases e
  · cases e

/-! ### o.append(x), d.get(k, x) -/
def tyLst (X : Cx) (T : List (Addr × Str)) (x : V) (H : Hp) : Prop := ∃ a xs, x = .ref a ∧ H a = some (.lst xs)
theorem ty_lst : TyOk X "list" (tyLst X T) := by
  intro pins σ H s x v I r ty
  obtain ⟨a, xs, rfl, e⟩ := ty
  cases r
  obtain ⟨z, its, n, rv, h⟩ := (show ObjOk X.prog X.w H s.heap a (.lst xs) from I.hok a _ e)
  refine ⟨⟨_, h, rfl⟩, fun b e => ?_⟩
  cases e
  exact ⟨_, h, rfl⟩
def tyDic (X : Cx) (x : V) (H : Hp) : Prop := ∃ a o xs, x = .ref a ∧ H a = some (ExO a o) ∧ DicO X.prog X.w o xs
theorem ty_dic : TyOk X "dict" (tyDic X) := by
  intro pins σ H s x v I r ty
  obtain ⟨a, o, xs, rfl, e, d⟩ := ty
  cases r
  obtain ⟨h, _, _⟩ := (show ObjOk X.prog X.w H s.heap a (ExO a o) from I.hok a _ e)
  refine ⟨⟨_, h, d.ex.1⟩, fun b e => ?_⟩
  cases e
  exact ⟨_, h, d.ex.2.1⟩
def rApp (X : Cx) (T : List (Addr × Str)) : V → List V → Hp → VK → Prop := fun x ys H Q => ∃ μ S v u y, ys = [y] ∧ StX X T μ H S ∧ VR X.K μ H v x ∧ VR X.K μ H u y ∧ AfX X T μ H (appop v u S) Q
theorem mt_app : MtR X "list.append" (rApp X T) := by
  intro pins s σ H x ys v us Q I rx rs hq
  obtain ⟨μ, S, a, b, y, rfl, hs, ha, hb, q⟩ := hq
  unfold appop at q
  split at q
  · cases ha with
    | obj h1 =>
      split at q
      · rename_i vs hn
        split at q
        · rename_i hl
          obtain ⟨xs, e1, rv⟩ := cel_at hs hn h1
          refine mt_append pins s σ H _ _ v us Q I rx rs ⟨_, xs, y, rfl, rfl, e1, ?_, ?_⟩
          · rw [← rv.length]
            exact Nat.lt_of_lt_of_le hl (by decide)
          · exact q μ _ _ (ext_lst (List.mem_of_getElem? h1) e1) (hs.write hn h1 rfl rfl (ext_lst (List.mem_of_getElem? h1) e1) (tabs_lst hs.tabs e1) ⟨_, upd_same, (rv.append (.cons hb .nil)).ext (ext_lst (List.mem_of_getElem? h1) e1)⟩) .non
        · exact q.elim
      · exact q.elim
  · exact q.elim
def rGet2 (X : Cx) (T : List (Addr × Str)) : V → List V → Hp → VK → Prop := fun x ys H Q => ∃ μ S v u w y z, ys = [y, z] ∧ StX X T μ H S ∧ VR X.K μ H v x ∧ VR X.K μ H u y ∧ VR X.K μ H w z ∧ AfX X T μ H (get2op v u w S) Q
theorem mt_get2 (hu : X.A.units + 100 < cLine) : MtR X "dict.get" (rGet2 X T) := by
  intro pins s σ H x ys v us Q I rx rs hq
  obtain ⟨μ, S, a, b, c, y, z, rfl, hs, ha, hb, hc, q⟩ := hq
  unfold get2op at q
  split at q
  · rename_i n kk hk
    cases ha with
    | obj h1 =>
      split at q
      · rename_i kvs hn
        obtain ⟨o, xs, e1, e2, e3, e4, e5⟩ := cel_at hs hn h1
        obtain ⟨p, rfl, hkey⟩ := keyOf_is I hk hb
        cases rx
        cases rs with
        | cons r1 rs =>
          cases rs with
          | cons r2 rs =>
            cases rs
            cases r1
            refine getOr_keyed (knd := nestedKind X.prog X.w) (by show X.A.units + 1 + 8 < cLine; omega) hkey e2 ⟨xs, dic_of I e1 e4 e5, rfl⟩ ?_
            rw [valueAt_pairsH]
            cases hl : look kvs kk with
            | none =>
              rw [hl] at q
              rw [(look_at e5 kk).2 hl]
              exact ⟨z, H, I.tok _, r2, aft_val q hs hc⟩
            | some w =>
              rw [hl] at q
              obtain ⟨_, uu, yy, g1, g2, g3⟩ := (look_at e5 kk).1 _ hl
              rw [g1]
              exact ⟨yy, H, I.tok _, g2, aft_val q hs g3⟩
      · exact q.elim
  · exact q.elim
end
end Ev
end

section
set_option Elab.async false
set_option linter.all false
set_option autoImplicit false
set_option maxRecDepth 100000
set_option maxHeartbeats 2000000
/-! EvBi2: the built-in functions of one argument, isinstance. -/
namespace Ev
open PySem PySem.Spec PyProof.Rows L2
section
variable {X : Cx} {T : List (Addr × Str)} {μ : List Addr} {H : Hp} {S : Store}
def rBi (X : Cx) (T : List (Addr × Str)) (gd : Bool) (b : BI) : List V → Hp → VK → Prop := fun xs H Q => ∃ μ S v x, xs = [x] ∧ StX X T μ H S ∧ VR X.K μ H v x ∧ AfX X T μ H (biop gd b v S) Q
variable {gd : Bool}
theorem bools_rel {K : PySem.W.Frag} : ∀ {vs : List Val} {xs : List V} {bs : List Bool}, boolsOf vs = some bs → VRs K μ H vs xs → xs = bs.map V.bl
  | [], xs, bs, e, r => by cases r; cases e; rfl
  | v :: vs, xs, bs, e, r => by
    cases v with
    | bl b =>
      obtain ⟨cs, h1, rfl⟩ := Option.map_eq_some_iff.mp (show (boolsOf vs).map (b :: ·) = some bs from e)
      cases r with
      | cons r rs =>
        cases r
        rw [List.map_cons, bools_rel h1 rs]
    | _ => cases e
theorem ints_rel {K : PySem.W.Frag} : ∀ {vs : List Val} {xs : List V} {bs : List Int}, intsOf vs = some bs → VRs K μ H vs xs → xs = bs.map V.int
  | [], xs, bs, e, r => by cases r; cases e; rfl
  | v :: vs, xs, bs, e, r => by
    cases v with
    | int b =>
      obtain ⟨cs, h1, rfl⟩ := Option.map_eq_some_iff.mp (show (intsOf vs).map (b :: ·) = some bs from e)
      cases r with
      | cons r rs =>
        cases r
        rw [List.map_cons, ints_rel h1 rs]
    | _ => cases e
theorem bi_len : CallR X (.builtin "len") (rBi X T gd .len) := by
  intro pins s σ H xs us Q I r hq
  obtain ⟨μ, S, v, x, rfl, hs, ha, q⟩ := hq
  have q : AfX X T μ H (lenop v S) Q := q
  unfold lenop at q
  split at q
  · cases ha with
    | obj h1 =>
      split at q
      · rename_i kvs hn
        obtain ⟨o, xs, e1, e2, e3, e4, e5⟩ := cel_at hs hn h1
        obtain ⟨u, rfl, rx⟩ := vals1 r
        cases rx
        have D := dic_of I e1 e4 e5
        have hl : (pairsH xs).length = kvs.length := by rw [pairsH_length, e5.length]
        refine PyProof.Rows.call_len_slot (n := kvs.length) D.typeIs PySem.F.slot_dict_len (fun Q' hq => len_keyed (knd := nestedKind X.prog X.w) (kvs := pairsH xs) e2 ⟨xs, D, rfl⟩ (by rw [hl]; exact hq)) (by omega) ?_ ⟨.int kvs.length, H, (I.tok _), ⟨_, rfl⟩, aft_val q hs (.int _)⟩
        rw [sizeLine_eq] at e3
        omega
      · rename_i vs hn
        obtain ⟨ys, h2, rs⟩ := sqL_of_cell hs hn rfl h1
        exact call_len_seq pins s σ H _ us Q I r ⟨_, ys, rfl, .inl h2, by rw [← rs.length]; exact aft_val q hs (.int _)⟩
      · exact q.elim
  · cases ha with
    | tup h rs => exact call_len_seq pins s σ H _ us Q I r ⟨_, _, rfl, .inr h.sq, by rw [← rs.length]; exact aft_val q hs (.int _)⟩
  · cases ha with
    | rol h rs => exact call_len_seq pins s σ H _ us Q I r ⟨_, _, rfl, .inl h.sq, by rw [← rs.length]; exact aft_val q hs (.int _)⟩
  · exact q.elim
theorem bi_abs : CallR X (.builtin "abs") (rBi X T gd .abs) := by
  intro pins s σ H xs us Q I r hq
  obtain ⟨μ, S, v, x, rfl, hs, ha, q⟩ := hq
  have q : AfX X T μ H (absop v S) Q := q
  unfold absop at q
  cases v with
  | int i =>
    cases ha
    refine call_abs pins s σ H _ us Q I r ⟨i, rfl, ?_⟩
    have e : (if i < 0 then -i else i) = ((i.natAbs : Nat) : Int) := by split <;> omega
    rw [e]
    exact aft_val q hs (.int _)
  | _ => exact q.elim
theorem bi_int : CallR X (.type "int") (rBi X T gd .int) := by
  intro pins s σ H xs us Q I r hq
  obtain ⟨μ, S, v, x, rfl, hs, ha, q⟩ := hq
  have q : AfX X T μ H (intop v S) Q := q
  unfold intop at q
  split at q
  · cases ha
    exact call_int1 pins s σ H _ us Q I r (.inl ⟨_, rfl, aft_val q hs (.int _)⟩)
  · cases ha
    exact call_int1 pins s σ H _ us Q I r (.inr ⟨_, rfl, aft_val q hs (.int _)⟩)
  · exact q.elim
theorem bi_all (hc : X.calm = true) : CallR X (.builtin "all") (rBi X T gd .all) := by
  intro pins s σ H xs us Q I r hq
  obtain ⟨μ, S, v, x, rfl, hs, ha, q⟩ := hq
  have q : AfX X T μ H (allop v S) Q := q
  unfold allop at q
  split at q
  · cases ha with
    | obj h1 =>
      split at q
      · rename_i vs hn
        split at q
        · rename_i bs hb
          obtain ⟨ys, h2, rs⟩ := sqL_of_cell hs hn rfl h1
          refine cr_all hc pins s σ H _ us Q I r ⟨_, bs, rfl, ?_, aft_val q hs (.bl _)⟩
          rw [← bools_rel hb rs]
          exact h2
        · exact q.elim
      · exact q.elim
  · exact q.elim
theorem bi_sum (hc : X.calm = true) : CallR X (.builtin "sum") (rBi X T gd .sum) := by
  intro pins s σ H xs us Q I r hq
  obtain ⟨μ, S, v, x, rfl, hs, ha, q⟩ := hq
  have q : AfX X T μ H (sumop v S) Q := q
  unfold sumop at q
  split at q
  · cases ha with
    | obj h1 =>
      split at q
      · rename_i vs hn
        split at q
        · rename_i bs hb
          obtain ⟨ys, h2, rs⟩ := sqL_of_cell hs hn rfl h1
          refine cr_sum hc pins s σ H _ us Q I r ⟨_, bs, rfl, ?_, aft_val q hs (.int _)⟩
          rw [← ints_rel hb rs]
          exact h2
        · exact q.elim
      · exact q.elim
  · exact q.elim
theorem bi_tuple : CallR X (.type "tuple") (rBi X T gd .tuple) := by
  intro pins s σ H xs us Q I r hq
  obtain ⟨μ, S, v, x, rfl, hs, ha, q⟩ := hq
  have q : AfX X T μ H (tupleop v S) Q := q
  unfold tupleop at q
  split at q
  · rename_i vs hv
    obtain ⟨p, ys, rfl, rs, h⟩ := seq_get hs hv ha
    obtain ⟨u, rfl, rx⟩ := vals1 r
    cases rx
    rcases h with ⟨h, _⟩ | ⟨h, _⟩
    · obtain ⟨its, _, t1, _⟩ := tupS_obj I h
      exact call_tuple_same t1.isTup ⟨.ref p, H, I, rfl, aft_val q hs (.tup h rs)⟩
    · obtain ⟨its, r', pl, hz⟩ := I.list h
      have hlen := r'.length
      refine call_tuple_list pl.isList (fun h' kp => ?_) (by simp only [List.size_toArray] <;> omega)
      have I1 : Inv X pins σ H { s with heap := h' } := I.kept (t' := s.toks) kp
      obtain ⟨o, d, J⟩ := laid_tup (t' := s.toks) I1 r' hz
      exact ⟨.ref h'.objs.size, _, J, rfl, aft_tup q hs rs (I1.hok.fresh (Nat.le_refl _)) d⟩
  · exact q.elim
theorem bi_list : CallR X (.type "list") (rBi X T gd .list) := by
  intro pins s σ H xs us Q I r hq
  obtain ⟨μ, S, v, x, rfl, hs, ha, q⟩ := hq
  have q : AfX X T μ H (listop v S) Q := q
  unfold listop at q
  split at q
  · rename_i vs hv
    obtain ⟨p, ys, rfl, rs, h⟩ := seq_get hs hv ha
    refine call_list_of pins s σ H _ us Q I r ⟨p, ys, rfl, ?_, fun l hl => aft_lst q hs rs hl⟩
    rcases h with ⟨h, _⟩ | ⟨h, _⟩
    · exact .inr h.sq
    · exact .inl h
  · exact q.elim
/-- repr of a list or tuple of data, where nothing is being shown -/
theorem bi_repr (hu : X.A.units + 100 < cLine) (hg : gd = true → X.A.guards = some []) : CallR X (.builtin "repr") (rBi X T gd .repr) := by
  intro pins s σ H xs us Q I r hq
  obtain ⟨μ, S, v, x, rfl, hs, ha, q⟩ := hq
  have q : AfX X T μ H (reprop gd v S) Q := q
  unfold reprop at q
  split at q
  · rename_i hv
    split at q
    · rename_i d hd
      split at q
      · rename_i hz
        obtain ⟨u, rfl, rx⟩ := vals1 r
        obtain ⟨d1, d2, d3⟩ := toD_shaped hs hd ha
        obtain ⟨as, rd⟩ := Dp.reads I d x u d1 rx
        have hx : ∃ p, x = .ref p := by
          cases ha with
          | tup _ _ => exact ⟨_, rfl⟩
          | rol _ _ => exact ⟨_, rfl⟩
          | obj _ => exact ⟨_, rfl⟩
          | _ => exact absurd hv.1 (by simp [isRef])
        obtain ⟨p, rfl⟩ := hx
        cases rx
        have nd : d.hasDict = false := PyData.hasDict_of_canLay d (SeqAt.canLay_of_shaped d2)
        exact repr_of_reads' rd hz.1 (PyData.noDict_hsm nd) (hg hv.2) (by omega) (fun _ _ e => e) (fun h' u tk hk => ⟨.str d.shown, H, I.kept (t' := tk) hk, ⟨u, rfl⟩, aft_val q hs (.str _)⟩) (cap_line hz.2)
      · exact q.elim
    · exact q.elim
  · exact q.elim
/-- isinstance(x, t), t a built-in class -/
def tyName : Ty → String
  | .int => "int" | .bool => "bool" | .tuple => "tuple" | .list => "list" | .str => "str" | .dict => "dict"
def rIsiV (X : Cx) (T : List (Addr × Str)) (t : Ty) : List V → Hp → VK → Prop := fun xs H Q => ∃ μ S v x b, xs = [x, .ty (tyName t)] ∧ StX X T μ H S ∧ VR X.K μ H v x ∧ isiV S v t = some b ∧ Q (.bl b) H
theorem bi_isi (t : Ty) : CallR X (.builtin "isinstance") (rIsiV X T t) := by
  intro pins s σ H xs us Q I r hq
  obtain ⟨μ, S, v, x, b, rfl, hs, ha, e, q⟩ := hq
  have go : ∀ (n : String), TyX X.K H x (.type n) → kitB n (tyName t) = some b → wpAny (model X.prog X.w) X.A (call (.builtin "isinstance") us) (EP X pins σ Q) X.xe s := fun n ty hk =>
    call_isi pins s σ H _ us Q I r ⟨x, _, .type n, .type (tyName t), b, rfl, .ty _, ty, kit_ty hk, q⟩
  cases ha with
  | non =>
    have e : some false = some b := e
    cases e
    exact go "NoneType" (.base .non) (by cases t <;> decide +kernel)
  | bl c =>
    have e : some (decide (t = .bool) || decide (t = .int)) = some b := e
    cases e
    exact go "bool" (.base (.bl c)) (by cases t <;> decide +kernel)
  | int c =>
    have e : some (decide (t = .int)) = some b := e
    cases e
    exact go "int" (.base (.int c)) (by cases t <;> decide +kernel)
  | str c =>
    have e : some (decide (t = .str)) = some b := e
    cases e
    exact go "str" (.base (.str c)) (by cases t <;> decide +kernel)
  | @tup a zs vs h rs =>
    have ty : TyX X.K H (.ref a) (.type "tuple") := by
      rcases h with ⟨o, h, _⟩ | ⟨o, its, n, h1, h2, _⟩
      · exact .fTuple h
      · exact .kTuple h1 h2
    have e : some (decide (t = .tuple)) = some b := e
    cases e
    exact go "tuple" ty (by cases t <;> decide +kernel)
  | @rol a zs vs h rs =>
    have ty : TyX X.K H (.ref a) (.type "list") := by
      rcases h with ⟨o, h⟩ | h
      · exact .base (.frz h)
      · rcases h (fun _ => none) with (e2 | ⟨_, e2⟩) | ⟨o, its, m, h1, h2, _⟩
        · cases e2
        · cases e2
        · exact .kList h1 h2
    have e : some (decide (t = .list)) = some b := e
    cases e
    exact go "list" ty (by cases t <;> decide +kernel)
  | @obj n a h =>
    unfold isiV at e
    dsimp only at e
    split at e
    · rename_i hn
      cases e
      obtain ⟨xs, e1, _⟩ := cel_at hs hn h
      exact go "list" (.base (.lst e1)) (by cases t <;> decide +kernel)
    · cases e
end
end Ev
end

section
set_option Elab.async false
set_option linter.all false
set_option autoImplicit false
set_option maxRecDepth 100000
set_option maxHeartbeats 2000000
/-! EvBi3: dict(a tuple of pairs), sorted(a dict), t[::-1]. -/
namespace Ev
open PySem PySem.Spec PyProof.Rows L2
section
variable {X : Cx} {T : List (Addr × Str)} {μ : List Addr} {H : Hp} {S : Store}
theorem fresh_at {pins : List (Addr × Obj)} {s : Shared} {σ : L2.St} (I : Inv X pins σ H s) : H s.heap.objs.size = none := I.hok.fresh (Nat.le_refl _)
theorem pairs_tup : ∀ {vs : List Val} {kvs : List (Val × Val)}, pairs vs = some kvs → vs = kvs.map fun p => .tup [p.1, p.2]
  | [], kvs, e => by cases e; rfl
  | v :: vs, kvs, e => by
    unfold pairs at e
    split at e
    · rename_i h; cases h
    · rename_i k w r h
      cases h
      obtain ⟨ks, h1, rfl⟩ := Option.map_eq_some_iff.mp e
      rw [pairs_tup h1, List.map_cons]
    · cases e
theorem putAll_keys : ∀ {ps acc out : List (Val × Val)}, putAll acc ps = some out → ∀ p ∈ ps, ∃ kk, keyOf p.1 = some kk
  | [], _, _, _, _, h => by cases h
  | (k, v) :: r, acc, out, e, p, h => by
    unfold putAll at e
    split at e
    · rename_i kk hk
      rcases List.mem_cons.mp h with rfl | h
      · exact ⟨kk, hk⟩
      · exact putAll_keys e p h
    · cases e
theorem putAll_rel {K : PySem.W.Frag} : ∀ {ps acc out : List (Val × Val)} {xs ws : List (NestedKey × Addr × Value)}, putAll acc ps = some out → DicR K μ H acc xs → DicR K μ H ps ws → DicR K μ H out (storedAllH xs ws)
  | [], acc, out, xs, ws, e, ra, rp => by
    cases rp
    cases e
    exact ra
  | (k, v) :: r, acc, out, xs, ws, e, ra, rp => by
    cases rp with
    | @cons _ _ k2 a y u _ ws' hk rk rv ru rp =>
      unfold putAll at e
      rw [hk] at e
      show DicR K μ H out (storedAllH (storedH xs k2 a u) ws')
      exact putAll_rel e (put_rel ra hk rk rv ru) rp
/-- the argument of dict() as the heap has it -/
theorem pairs_rel {pins : List (Addr × Obj)} {s : Shared} {σ : L2.St} (I : Inv X pins σ H s) : ∀ {ps : List (Val × Val)} {xs : List V} {its : List Value}, (∀ p ∈ ps, ∃ kk, keyOf p.1 = some kk) → VRs X.K μ H (ps.map fun p => .tup [p.1, p.2]) xs → Vals xs its →
    ∃ (ws : List (NestedKey × Addr × Value)) (as : List Addr), DicR X.K μ H ps ws ∧ its = as.map Value.ref ∧ as.length = ws.length ∧ ∀ (j : Nat) (w : NestedKey × Addr × Value), ws[j]? = some w → ∃ a, as[j]? = some a ∧ s.heap.IsTuple a #[.ref w.2.1, w.2.2]
  | [], xs, its, _, r, l => by
    cases r
    cases l
    exact ⟨[], [], .nil, rfl, rfl, fun j w h => by cases h⟩
  | p :: ps, xs, its, hk, r, l => by
    rw [List.map_cons] at r
    cases r with
    | cons r rs =>
      cases l with
      | cons l ls =>
        obtain ⟨ws, as, h1, h2, h3, h4⟩ := pairs_rel I (fun q hq => hk q (List.mem_cons_of_mem _ hq)) rs ls
        obtain ⟨kk, hkk⟩ := hk p List.mem_cons_self
        cases r with
        | @tup a zs _ ht rz =>
          cases l
          obtain ⟨us, r2, ⟨o, n, e1, e2, _, e4⟩, _⟩ := tupS_obj I ht
          cases rz with
          | cons ra rb =>
            cases rb with
            | cons rb rc =>
              cases rc
              obtain ⟨b, rfl, _⟩ := keyOf_is I hkk ra
              cases r2 with
              | cons q1 q2 =>
                cases q2 with
                | cons q2 q3 =>
                  cases q3
                  cases q1
                  refine ⟨(kk, b, _) :: ws, a :: as, .cons hkk ra rb q2 h1, by rw [h2]; rfl, by rw [List.length_cons, List.length_cons, h3], fun j w hj => ?_⟩
                  cases j with
                  | zero =>
                    cases hj
                    exact ⟨a, rfl, o, e1, e2, n, e4⟩
                  | succ j => exact h4 j w hj
theorem nested_keep {h h' : Heap} (k : ∀ b o, h.get? b = some o → h'.get? b = some o) {ws : List (NestedKey × Addr × Value)} {kk : NestedKey} {b : Addr} (i : (nestedKind X.prog X.w).is h kk b) : (nestedKind X.prog X.w).is h' kk b :=
  nestedKind_stays.stays (fun c o _ _ e _ => k c o e) i
theorem bi_dict (hu : X.A.units + 100 < cLine) (hc : X.calm = true) {gd : Bool} : CallR X (.type "dict") (rBi X T gd .dict) := by
  intro pins s σ H xs us Q I r hq
  obtain ⟨μ, S, v, x, rfl, hs, ha, q⟩ := hq
  have q : AfX X T μ H (dictop v S) Q := q
  unfold dictop at q
  split at q
  · rename_i vs
    split at q
    · rename_i ps hp
      split at q
      · rename_i kvs hk
        split at q
        · rename_i hz
          cases ha with
          | @tup a zs _ ht rz =>
            obtain ⟨u, rfl, rx⟩ := vals1 r
            cases rx
            have hv := pairs_tup hp
            subst hv
            obtain ⟨its, r2, ⟨o, n, e1, e2, e3, e4⟩, _⟩ := tupS_obj I ht
            obtain ⟨ws, as, d1, rfl, d3, d4⟩ := pairs_rel I (putAll_keys hk) rz r2
            have hl : ws.length = ps.length := d1.length.symm
            have hz' : ws.length ≤ cap := by rw [hl]; simpa using hz
            have P := PairArg.tuple (prog := X.prog) (w := X.w) a (as.map Value.ref).toArray (fun j => as[j]?.getD 0) (ws.map fun y => (Value.ref y.2.1, y.2.2))
            have ok : PlainSeq "tuple" s.heap a (as.map Value.ref).toArray ∧ PairItems s.heap (as.map Value.ref).toArray (fun j => as[j]?.getD 0) (ws.map fun y => (Value.ref y.2.1, y.2.2)) := by
              refine ⟨⟨o, n, e1, e2, e3, e4⟩, by simp [d3], fun j k w hj => ?_⟩
              rw [List.getElem?_map] at hj
              obtain ⟨y, hy, e⟩ := Option.map_eq_some_iff.mp hj
              cases e
              obtain ⟨b, hb, t⟩ := d4 j y hy
              refine ⟨by simp [hb], .inl ?_⟩
              simp only [hb, Option.getD_some]
              exact t
            have Dw : ∀ y ∈ ws, (nestedKind X.prog X.w).is s.heap y.1 y.2.1 := by
              clear d4 d3 hl hz' P ok e4 r2 hk hp hz rz vs
              induction d1 with
              | nil => exact fun y hy => absurd hy (by simp)
              | cons hk' rk _ _ r ih =>
                intro y hy
                rcases List.mem_cons.mp hy with rfl | hy
                · obtain ⟨b, e, z⟩ := keyOf_is I hk' rk
                  cases e
                  exact z
                · exact ih y hy
            refine call_dict_pairsH (knd := nestedKind X.prog X.w) P (I.ok.hd hc) (by show X.A.units + 1 + 1 + 8 < cLine; omega) ok ⟨by simp, fun i key w hw => ?_⟩ (fun h' hk' y hy => nested_keep (X := X) (ws := ws) (fun b ob e => hk' b ob (Nat.ne_of_lt (Heap.lt_size e)) (by simp) e) (Dw y hy)) (by simpa using cap_line hz') fun h' tk hd hk' => ?_
            · have hw : (ws.map fun y => (Value.ref y.2.1, y.2.2))[i]? = some (key, w) := hw
              rw [List.getElem?_map] at hw
              obtain ⟨y, hy, e⟩ := Option.map_eq_some_iff.mp hw
              cases e
              exact ⟨y.1, y.2.1, hy, rfl⟩
            · obtain ⟨od, hod, D⟩ := dicO_of hd
              have hF : H s.heap.objs.size = none := fresh_at I
              have hm : (s.heap.objs.size == sysModules) = false := beq_eq_false_iff_ne.mpr (Nat.ne_of_gt I.big)
              refine ⟨.ref s.heap.objs.size, upd H s.heap.objs.size (ExO s.heap.objs.size od), I.laid (t' := tk) (fun b u e => hk' b u (by simp) e) (Nat.le_refl _) (exO_ok hod), rfl, ?_⟩
              have rel := putAll_rel hk (.nil (K := X.K) (μ := μ) (H := H)) d1
              have hlen : kvs.length ≤ sizeLine := by
                rw [rel.length]
                refine Nat.le_trans (storedAllH_length ws []) ?_
                rw [List.length_nil, Nat.zero_add]
                exact cap_line hz'
              refine q (μ ++ [s.heap.objs.size]) _ _ (.push hF) (hs.push hF ⟨od, _, upd_same, hm, hlen, D, rel.ext (.push hF)⟩) (.obj ?_)
              rw [← hs.len, List.getElem?_append_right (Nat.le_refl _), Nat.sub_self]
              rfl
        · exact q.elim
      · exact q.elim
    · exact q.elim
  · exact q.elim

/-! ### sorted(d) -/
mutual
theorem reads_there {h : Heap} : ∀ (d : PyData) (v : Value) (as : List Addr), PySem.W.alike d d = true → Reads h v d as → ∀ b ∈ as, ∃ o, h.get? b = some o
  | .none, _, _, _, r, _, hb => by cases r; cases hb
  | .bool _, _, _, _, r, _, hb => by cases r; cases hb
  | .int _, _, _, _, r, _, hb => by cases r; cases hb
  | .str _, _, _, _, r, _, hb => by cases r; cases hb
  | .list xs, _, _, ha, r, b, hb => by
    cases r with
    | list h1 h2 h3 h4 =>
      rcases List.mem_cons.mp hb with rfl | hb
      · exact ⟨_, h1⟩
      · exact readsAll_there xs _ _ (by simpa [PySem.W.alike] using ha) h4 b hb
  | .tuple xs, _, _, ha, r, b, hb => by
    cases r with
    | tuple h1 h2 h3 h4 => exact readsAll_there xs _ _ (by simpa [PySem.W.alike] using ha) h4 b hb
  | .dict _, _, _, ha, _, _, _ => absurd ha (by simp [PySem.W.alike])
theorem readsAll_there {h : Heap} : ∀ (ds : List PyData) (vs : List Value) (as : List Addr), PySem.W.alikeAll ds ds = true → ReadsAll h vs ds as → ∀ b ∈ as, ∃ o, h.get? b = some o
  | [], _, _, _, r, _, hb => by cases r; cases hb
  | d :: ds, _, _, ha, r, b, hb => by
    cases r with
    | cons h1 h2 =>
      rcases List.mem_append.mp hb with hb | hb
      · exact reads_there d _ _ (PySem.W.alike_all_cons ha).1 h1 b hb
      · exact readsAll_there ds _ _ (PySem.W.alike_all_cons ha).2 h2 b hb
end
theorem sortable_is {ds : List PyData} (h : sortable ds = true) : PySem.W.AllAlike ds ∧ PySem.W.Sortable ds := by
  have g := List.all_eq_true.mp h
  refine ⟨fun d hd e he => ?_, .inl fun d hd => ?_⟩
  · have z := g d hd
    rw [Bool.and_eq_true] at z
    exact List.all_eq_true.mp z.2 e he
  · have z := g d hd
    rw [Bool.and_eq_true] at z
    have z1 := z.1
    split at z1
    · exact ⟨_, _, rfl⟩
    · cases z1
theorem mapM_length {f : Val → Option PyData} : ∀ {vs : List Val} {ds : List PyData}, vs.mapM f = some ds → vs.length = ds.length
  | [], ds, e => by cases e; rfl
  | v :: vs, ds, e => by
    obtain ⟨d, es, _, h2, rfl⟩ := mapM_cons' e
    rw [List.length_cons, List.length_cons, mapM_length h2]
theorem zip_snd : ∀ {vs : List Val} {ds : List PyData}, vs.length = ds.length → (vs.zip ds).map (·.2) = ds
  | [], [], _ => rfl
  | v :: vs, d :: ds, h => by rw [List.zip_cons_cons, List.map_cons, zip_snd (by simpa using h)]
  | [], _ :: _, h => by cases h
  | _ :: _, [], h => by cases h
/-- the keys of the dict, by values and as data -/
theorem keys_each {pins : List (Addr × Obj)} {s : Shared} {σ : L2.St} (I : Inv X pins σ H s) (hs : StX X T μ H S) : ∀ {kvs : List (Val × Val)} {xs : List (NestedKey × Addr × Value)} {ds : List PyData}, DicR X.K μ H kvs xs → (kvs.map (·.1)).mapM (toD S deepMost) = some ds →
    PySem.W.EachIs (fun (v : Value) (b : Val × PyData) => ∃ x, RelV x v ∧ VR X.K μ H b.1 x) (xs.map fun y => Value.ref y.2.1) ((kvs.map (·.1)).zip ds) ∧
      PySem.W.EachIs (fun (v : Value) (b : Val × PyData) => (∃ as, Reads s.heap v b.2 as) ∧ b.2.depth ≤ 12) (xs.map fun y => Value.ref y.2.1) ((kvs.map (·.1)).zip ds)
  | _, _, ds, .nil, e => by
    cases e
    exact ⟨.nil, .nil⟩
  | _, _, ds, .cons (k := k) (a := a) hk rk rv ru r, e => by
    rw [List.map_cons] at e
    obtain ⟨d, es, e1, e2, rfl⟩ := mapM_cons' e
    obtain ⟨h1, h2⟩ := keys_each I hs r e2
    obtain ⟨p1, _, p3⟩ := toD_shaped hs e1 rk
    exact ⟨.cons ⟨V.ref a, rfl, rk⟩ h1, .cons ⟨Dp.reads I d _ _ p1 rfl, p3⟩ h2⟩
theorem each_vals {bs : List (Val × PyData)} {out : List Value} (h : PySem.W.EachIs (fun (v : Value) (b : Val × PyData) => ∃ x, RelV x v ∧ VR X.K μ H b.1 x) out bs) : ∃ xs, Vals xs out ∧ VRs X.K μ H (bs.map (·.1)) xs := by
  induction h with
  | nil => exact ⟨[], .nil, .nil⟩
  | cons h _ ih =>
    obtain ⟨x, r1, r2⟩ := h
    obtain ⟨xs, r3, r4⟩ := ih
    exact ⟨x :: xs, .cons r1 r3, .cons r2 r4⟩
theorem bi_sorted (hu : X.A.units + 100 < cLine) (hc : X.calm = true) {gd : Bool} : CallR X (.builtin "sorted") (rBi X T gd .sorted) := by
  intro pins s σ H xs us Q I r hq
  obtain ⟨μ, S, v, x, rfl, hs, ha, q⟩ := hq
  have q : AfX X T μ H (sortedop v S) Q := q
  unfold sortedop at q
  split at q
  · cases ha with
    | @obj n a h1 =>
      split at q
      · rename_i kvs hn
        split at q
        · rename_i vs hv
          unfold sortV at hv
          split at hv
          · rename_i ds hds
            split at hv
            · rename_i hso
              cases hv
              obtain ⟨o, ws, e1, e2, e3, e4, e5⟩ := cel_at hs hn h1
              obtain ⟨u, rfl, rx⟩ := vals1 r
              cases rx
              have D := dic_of I e1 e4 e5
              obtain ⟨es, ep, hraw, hsz, hes⟩ := D.raw
              have hl : ws.length = kvs.length := e5.length.symm
              refine Calls.call_function_entry PyProof.Rows.kind_sorted PyProof.Rows.plain_sorted PyProof.Rows.entry_sorted (PyProof.Rows.args_sorted1 _) ?_
              unfold Builtin.«sorted»
              refine wpAny_bind (m := checkCount "sorted" 1 1 _) (wpAny_pure ?_)
              refine wpAny_bind (PySem.W.kdu_collect (A := X.A.in1) (KdlSrc.rawDict (es := es) (ep := ep) e2) (I.ok.hd hc) hraw (by rw [hsz, hl]; exact e3) fun h' tk acc hk hacc => ?_)
              have hacc2 : acc.toList = ws.map fun y => Value.ref y.2.1 := by
                refine List.ext_getElem? fun j => ?_
                by_cases hj : j < es.size
                · have hj' : j < acc.size := by rw [hacc.1]; exact hj
                  obtain ⟨hi, e⟩ := hacc.2 j acc[j] (Array.getElem?_eq_getElem hj')
                  obtain ⟨y, hy, h5, _, _⟩ := hes j hi
                  rw [Array.getElem?_toList, Array.getElem?_eq_getElem hj', e, h5, List.getElem?_map, hy]
                  rfl
                · rw [Array.getElem?_toList, Array.getElem?_eq_none (by rw [hacc.1]; omega), List.getElem?_eq_none (by rw [List.length_map, ← hsz]; omega)]
              have I1 : Inv X pins σ H { s with heap := h', toks := tk } := I.kept hk
              obtain ⟨k1, k2⟩ := keys_each I1 hs e5 hds
              rw [← hacc2] at k1 k2
              have hal : acc.toList.length ≤ sizeLine := by rw [hacc2, List.length_map, hl]; exact e3
              refine wpAny_bind (wpAny_newList ?_ hal)
              have hoL : (h'.push (seqObj "list" acc.toList.toArray 0)).get? h'.objs.size = some (seqObj "list" acc.toList.toArray 0) := Heap.get?_push_size _ rfl
              obtain ⟨al, so⟩ := sortable_is hso
              have hzip : ((kvs.map (·.1)).zip ds).map (fun p : Val × PyData => p.2) = ds := zip_snd (mapM_length hds)
              have hbl : ((kvs.map (·.1)).zip ds).length ≤ sizeLine := by
                rw [List.length_zip, List.length_map]
                exact Nat.le_trans (Nat.min_le_left _ _) e3
              have er : PySem.W.EachIs (fun (v : Value) (b : Val × PyData) => ∃ as, Reads (h'.push (seqObj "list" acc.toList.toArray 0)) v b.2 as ∧ h'.objs.size ∉ as) acc.toList ((kvs.map (·.1)).zip ds) := by
                refine (PySem.W.each_mem k2).mono fun v b ⟨⟨⟨as, rd⟩, _⟩, hb⟩ => ⟨as, PyProof.Rows.Reads.keeps (fun _ _ => Heap.get?_push_of_some _) rd, fun hm => ?_⟩
                have hb2 : b.2 ∈ ds := by rw [← hzip]; exact List.mem_map_of_mem hb
                obtain ⟨oo, ho⟩ := reads_there b.2 v as (al _ hb2 _ hb2) rd _ hm
                exact absurd (Heap.lt_size ho) (Nat.lt_irrefl _)
              have hdep : ∀ b ∈ (kvs.map (·.1)).zip ds, X.A.in1.units + 1 + b.2.depth < cLine := by
                intro b hb
                have hmem : ∀ {out : List Value} {bs : List (Val × PyData)}, PySem.W.EachIs (fun (v : Value) (b : Val × PyData) => (∃ as, Reads h' v b.2 as) ∧ b.2.depth ≤ 12) out bs → ∀ b ∈ bs, b.2.depth ≤ 12 := by
                  intro out bs h
                  induction h with
                  | nil => exact fun b hb => absurd hb (by simp)
                  | cons h _ ih =>
                    intro b hb
                    rcases List.mem_cons.mp hb with rfl | hb
                    · exact h.2
                    · exact ih b hb
                have := hmem k2 b hb
                show X.A.units + 1 + 1 + b.2.depth < cLine
                omega
              refine wpAny_bind (wpAny_holding (PySem.W.list_sort_data (A := X.A.in1) (s := { s with heap := h'.push (seqObj "list" acc.toList.toArray 0), toks := tk }) (enc := fun p : Val × PyData => p.2) hoL k1 er (by rw [hzip]; exact al) (by rw [hzip]; exact so) hbl hdep fun out ho eo => ?_))
              obtain ⟨e', he'⟩ := PyProof.Rows.sortedHeap_at (vs := acc.toList) (out := out.toArray) hoL
              obtain ⟨zs, rz, rv⟩ := each_vals eo
              have hlz : zs.length ≤ sizeLine := by
                rw [rz.length, ho]
                exact hbl
              have hF : H h'.objs.size = none := I1.hok.fresh (Nat.le_refl _)
              refine wpAny_pure ⟨_, rfl, .ref h'.objs.size, upd H h'.objs.size (.lst zs), I1.laid (t' := tk) (fun b u e => ?_) (Nat.le_refl _)
                (show ObjOk X.prog X.w _ _ _ (.lst zs) from ⟨hlz, out, e', rz, he'⟩), rfl, aft_lst q hs rv hF⟩
              have hb : b < h'.objs.size := Heap.lt_size e
              rw [PyProof.Rows.sortedHeap_old (Nat.ne_of_lt hb) (by rw [size_push']; exact Nat.lt_succ_of_lt hb)]
              exact Heap.get?_push_of_some _ e
            · cases hv
          · cases hv
        · exact q.elim
      · exact q.elim
  · exact q.elim

/-! ### t[::-1] -/
theorem adjust_rev (n : Nat) : Builtin.Slice.sliceAdjust none none (-1) (n : Int) = ((n : Int) - 1, -1) := by
  unfold Builtin.Slice.sliceAdjust
  simp
theorem places_rev (n : Nat) : Builtin.Slice.slicePlaces ((n : Int) - 1) (-1) (-1) = n := by
  unfold Builtin.Slice.slicePlaces
  simp
  try omega
theorem pick_rev (xs : Array Value) : ((List.range xs.size).filterMap fun (m : Nat) => xs[(((xs.size : Int) - 1) + (m : Int) * (-1)).toNat]?).toArray = xs.toList.reverse.toArray := by
  congr 1
  have e : ∀ m ∈ List.range xs.size, xs[(((xs.size : Int) - 1) + (m : Int) * (-1)).toNat]? = some (xs[xs.size - 1 - m]?.getD .none) := fun m hm => by
    have hm := List.mem_range.mp hm
    have z : (((xs.size : Int) - 1) + (m : Int) * (-1)).toNat = xs.size - 1 - m := by omega
    rw [z, Array.getElem?_eq_getElem (by omega)]
    rfl
  have g : ∀ (f f' : Nat → Option Value) (l : List Nat), (∀ m ∈ l, f m = f' m) → l.filterMap f = l.filterMap f' := by
    intro f f' l hl
    induction l with
    | nil => rfl
    | cons a l ih => rw [List.filterMap_cons, List.filterMap_cons, hl a List.mem_cons_self, ih fun m hm => hl m (List.mem_cons_of_mem _ hm)]
  rw [g _ _ _ e]
  have g2 : (fun m : Nat => some (xs[xs.size - 1 - m]?.getD .none)) = some ∘ fun m : Nat => xs[xs.size - 1 - m]?.getD .none := rfl
  rw [g2, List.filterMap_eq_map]
  refine List.ext_getElem (by simp) fun i h1 h2 => ?_
  simp at h1
  simp [h1, Array.getElem?_eq_getElem (show xs.size - 1 - i < xs.size by omega)]
theorem getItem_rev {prog : Program} {w : World} {A : Around} {E : Value → Shared → Prop} {s : Shared} {t sl : Addr} {items : Array Value} {vk : Value} {Q : Value → Shared → Prop} (ht : IsTup s.heap t items) (hs : s.heap.IsSliceOf sl .none .none vk) (pk : IsPart vk (some (-1)))
    (h : Q (.ref s.heap.objs.size) { s with heap := s.heap.push { cls := .type "tuple", data := .seq items.toList.reverse.toArray } }) (hsz : items.size ≤ sizeLine) : wpAny (model prog w) A (getItem (.ref t) (.ref sl)) Q E s := by
  have htake : sizeOk (.seq items.toList.reverse.toArray) := by
    show items.toList.reverse.toArray.size ≤ sizeLine
    rw [List.size_toArray, List.length_reverse, Array.length_toList]
    exact hsz
  obtain ⟨os, hos, hcs, hds⟩ := id hs
  have ty2 : s.TypeIs (.ref sl) "slice" := ⟨os, hos, hcs⟩
  unfold getItem
  refine wpAny_holding ?_
  refine wpAny_bind (wpAny_sequenceKey ht.typeIs (by decide) ?_)
  refine wpAny_bind (wpAny_callSpecial?_slot (name := Str.ofString "__getitem__") ht.typeIs PyProof.Rows.slot_tuple_getitem
    (wpAny_call_entry PyProof.Rows.slot_tuple_getitem ht.typeIs PyProof.Rows.entry_tuple_getitem ?_ (PyProof.Rows.args_tuple_getitem _ _)))
  show wpAny _ _ (Builtin.Tuple.tupleItemsOf (.ref t) >>= _) _ _ s
  refine wpAny_bind (PyProof.Rows.tupleItemsOf_ ht ?_)
  refine wpAny_bind (wpAny_typeOf ty2 ?_)
  rw [if_pos (by decide)]
  have hap : wpAny (model prog w) A.in1 (Builtin.Slice.sliceApplied (.ref sl) (pure (items.size : Int))) (fun r s' => r = (((items.size : Int) - 1), -1, items.size) ∧ s' = s) E s := by
    unfold Builtin.Slice.sliceApplied Builtin.Slice.sliceFields
    refine wpAny_bind (wpAny_bind (wpAny_field hos hds (x := .none) rfl (wpAny_bind (wpAny_field hos hds (x := .none) rfl (wpAny_bind (wpAny_field hos hds (x := vk) rfl (wpAny_pure ?_)))))))
    refine wpAny_bind (HT.slicePart_ pk ?_)
    show wpAny _ _ (if ((-1 : Int) == 0) = true then _ else _) _ _ s
    rw [if_neg (by decide)]
    refine wpAny_bind (HT.slicePart_ .none (wpAny_bind (HT.slicePart_ .none (wpAny_bind (wpAny_pure ?_)))))
    show wpAny _ _ (match Builtin.Slice.sliceAdjust none none (-1) (items.size : Int) with | (lo, hi) => pure (lo, (-1 : Int), Builtin.Slice.slicePlaces lo hi (-1))) _ _ s
    rw [adjust_rev]
    show wpAny _ _ (pure (((items.size : Int) - 1), (-1 : Int), Builtin.Slice.slicePlaces ((items.size : Int) - 1) (-1) (-1))) _ _ s
    rw [places_rev]
    exact wpAny_pure ⟨rfl, rfl⟩
  refine wpAny_bind (wpAny_mono hap (fun r s' h' => ?_) fun _ _ e => e)
  obtain ⟨rfl, rfl⟩ := h'
  have hno : ¬ ((((items.size : Int) - 1) == 0 && (-1 : Int) == 1 && items.size == items.size) = true) := by
    intro q
    rw [Bool.and_eq_true, Bool.and_eq_true] at q
    exact absurd q.1.2 (by decide)
  show wpAny _ _ (if (((items.size : Int) - 1) == 0 && (-1 : Int) == 1 && items.size == items.size) = true then _ else _) _ _ _
  rw [if_neg hno, pick_rev]
  first
    | exact wpAny_bind (m := Builtin.Tuple.tupleExact _) (wpAny_newObj_type (wpAny_pure ⟨_, rfl, wpAny_pure h⟩) htake)
    | exact wpAny_bind (m := Builtin.Tuple.tupleExact _) (wpAny_newObj_type (wpAny_bind (wpAny_pure (wpAny_pure ⟨_, rfl, wpAny_pure h⟩))) htake)
    | exact wpAny_bind (wpAny_bind (m := Builtin.Tuple.tupleExact _) (wpAny_newObj_type (wpAny_pure (wpAny_pure ⟨_, rfl, wpAny_pure h⟩)) htake))
    | exact wpAny_bind (wpAny_bind (m := Builtin.Tuple.tupleExact _) (wpAny_newObj_type (wpAny_pure ⟨_, rfl, wpAny_pure h⟩) htake))
end
end Ev
end

section
set_option Elab.async false
set_option linter.all false
set_option autoImplicit false
set_option maxRecDepth 100000
set_option maxHeartbeats 2000000
/-! EvSim: the readings: what an evaluation says of the model's run. -/
namespace Ev
open PySem PySem.Spec PyProof.Rows L2

/-- tables of code objects, what the error classes are, the wish about errors -/
structure Wx where
  T : List (Addr × Str)
  cv : Nat → Value
  E : XK
/-- the slots -/
def EnvR (K : PySem.W.Frag) (μ : List Addr) (H : Hp) (e : Env) (σ : L2.St) : Prop :=
  e.length = σ.length ∧ ∀ (i : Nat) (v : Val), e[i]? = some (some v) → ∃ x, σ[i]? = some (some x) ∧ VR K μ H v x
section
variable {K : PySem.W.Frag} {μ μ1 : List Addr} {H H1 : Hp} {e : Env} {σ : L2.St}
theorem EnvR.ext (h : EnvR K μ H e σ) (x : Ext K μ H μ1 H1) : EnvR K μ1 H1 e σ := ⟨h.1, fun i v q => let ⟨y, a, b⟩ := h.2 i v q; ⟨y, a, b.ext x⟩⟩
theorem EnvR.set {v : Val} {x : V} (h : EnvR K μ H e σ) (i : Nat) (r : VR K μ H v x) : EnvR K μ H (e.set i (some v)) (σ.set i (some x)) := by
  refine ⟨by rw [List.length_set, List.length_set]; exact h.1, fun j w q => ?_⟩
  by_cases hj : i = j
  · subst hj
    have hl : i < e.length := by
      have := (List.getElem?_eq_some_iff.mp q).1
      rwa [List.length_set] at this
    rw [List.getElem?_set_self hl] at q
    cases q
    exact ⟨x, by rw [List.getElem?_set_self (by rw [← h.1]; exact hl)], r⟩
  · rw [List.getElem?_set_ne hj] at q ⊢
    exact h.2 j w q
theorem wipeE_length (e : Env) : ∀ l : List Nat, (wipeE e l).length = e.length
  | [] => rfl
  | v :: vs => by unfold wipeE; rw [List.length_set, wipeE_length e vs]
theorem EnvR.wipe (h : EnvR K μ H e σ) : ∀ l : List Nat, EnvR K μ H (wipeE e l) (L2.wipe σ l)
  | [] => h
  | i :: l => by
    have ih := EnvR.wipe h l
    unfold wipeE L2.wipe
    refine ⟨by rw [List.length_set, List.length_set]; exact ih.1, fun j w q => ?_⟩
    by_cases hj : i = j
    · subst hj
      have hl : i < (wipeE e l).length := by
        have := (List.getElem?_eq_some_iff.mp q).1
        rwa [List.length_set] at this
      rw [List.getElem?_set_self hl] at q
      cases q
    · rw [List.getElem?_set_ne hj] at q ⊢
      exact ih.2 j w q
theorem EnvR.start {vs : List Val} {xs : List V} {n : Nat} {N : List Str} (r : VRs K μ H vs xs) (hn : N.length = n) : EnvR K μ H (vs.map some ++ List.replicate (n - vs.length) none) (L2.start N xs) := by
  have hl := r.length
  unfold L2.start
  refine ⟨by simp [hn, hl], fun i v q => ?_⟩
  by_cases hi : i < vs.length
  · rw [List.getElem?_append_left (by simpa using hi), List.getElem?_map] at q
    obtain ⟨w, h1, h2⟩ := Option.map_eq_some_iff.mp q
    cases h2
    obtain ⟨x, h3, h4⟩ := r.get h1
    exact ⟨x, by rw [List.getElem?_append_left (by rw [List.length_map, ← hl]; exact hi), List.getElem?_map, h3]; rfl, h4⟩
  · rw [List.getElem?_append_right (by simpa using hi)] at q
    rw [List.getElem?_replicate] at q
    split at q <;> cases q
end

/-- how the end of an evaluation is wished for -/
def Post {α β : Type} (P : Program) (w : World) (K : PySem.W.Frag) (Y : Wx) (Rl : List Addr → Hp → α → β → Prop) (μ : List Addr) (H : Hp) (r : R α) (Q : β → Hp → Prop) : Prop :=
  match r with
  | .ok a S => ∀ μ' H' b, Ext K μ H μ' H' → StR P w K Y.T μ' H' S → Rl μ' H' a b → Q b H'
  | .err c S => ∀ μ' H', Ext K μ H μ' H' → StR P w K Y.T μ' H' S → Y.E (Y.cv c) none H'
  | .stuck => False
abbrev rV (K : PySem.W.Frag) : List Addr → Hp → Val → V → Prop := fun μ H v x => VR K μ H v x
abbrev rVs (K : PySem.W.Frag) : List Addr → Hp → List Val → List V → Prop := fun μ H v x => VRs K μ H v x
abbrev rEq {α : Type} : List Addr → Hp → α → α → Prop := fun _ _ a b => a = b
section
variable {X : Cx} {Y : Wx} {α β γ δ : Type} {Rl : List Addr → Hp → α → β → Prop} {Rm : List Addr → Hp → γ → δ → Prop} {μ μ1 : List Addr} {H H1 : Hp} {r : R α} {e : Env} {σ : L2.St} {S : Store}
abbrev Po (X : Cx) (Y : Wx) {α β : Type} (Rl : List Addr → Hp → α → β → Prop) (μ : List Addr) (H : Hp) (r : R α) (Q : β → Hp → Prop) : Prop := Post X.prog X.w X.K Y Rl μ H r Q
theorem Post.ext {P : Program} {w : World} {K : PySem.W.Frag} {Q : β → Hp → Prop} (h : Post P w K Y Rl μ H r Q) (x : Ext K μ H μ1 H1) : Post P w K Y Rl μ1 H1 r Q := by
  cases r with
  | ok a S => exact fun μ' H' b e s q => h μ' H' b (x.trans e) s q
  | err c S => exact fun μ' H' e s => h μ' H' (x.trans e) s
  | stuck => exact h
theorem Post.mono {P : Program} {w : World} {K : PySem.W.Frag} {Q Q' : β → Hp → Prop} (h : Post P w K Y Rl μ H r Q) (m : ∀ b μ1 H1 a S1, Ext K μ H μ1 H1 → StR P w K Y.T μ1 H1 S1 → Rl μ1 H1 a b → r = .ok a S1 → Q b H1 → Q' b H1) : Post P w K Y Rl μ H r Q' := by
  cases r with
  | ok a S => exact fun μ' H' b e s q => m b μ' H' a S e s q rfl (h μ' H' b e s q)
  | err c S => exact h
  | stuck => exact h
/-- what is read of code: f by the slots and the store -/
def rd (X : Cx) (Y : Wx) {α β : Type} (Rl : List Addr → Hp → α → β → Prop) (f : Env → Store → R α) : L2.St → Hp → (β → Hp → Prop) → Prop :=
  fun σ H Q => ∃ μ e S, EnvR X.K μ H e σ ∧ StX X Y.T μ H S ∧ Po X Y Rl μ H (f e S) Q
theorem rd_of {f : Env → Store → R α} {Q Q' : β → Hp → Prop} (he : EnvR X.K μ H e σ) (hs : StX X Y.T μ H S) (h : Po X Y Rl μ H (f e S) Q)
    (m : ∀ b μ1 H1 a S1, Ext X.K μ H μ1 H1 → EnvR X.K μ1 H1 e σ → StX X Y.T μ1 H1 S1 → Rl μ1 H1 a b → f e S = .ok a S1 → Q b H1 → Q' b H1) : rd X Y Rl f σ H Q' :=
  ⟨μ, e, S, he, hs, h.mono fun b μ1 H1 a S1 x s q z => m b μ1 H1 a S1 x (he.ext x) s q z⟩
/-- one after another -/
theorem rd_bind {f : Env → Store → R α} {k : α → Store → R γ} {Q : δ → Hp → Prop} {Q' : β → Hp → Prop} (he : EnvR X.K μ H e σ) (hs : StX X Y.T μ H S) (h : Po X Y Rm μ H ((f e S).bind k) Q)
    (m : ∀ b H1 μ1 a S1, Ext X.K μ H μ1 H1 → EnvR X.K μ1 H1 e σ → StX X Y.T μ1 H1 S1 → Rl μ1 H1 a b → Po X Y Rm μ1 H1 (k a S1) Q → Q' b H1) : rd X Y Rl f σ H Q' := by
  refine ⟨μ, e, S, he, hs, ?_⟩
  cases q : f e S with
  | ok a S1 =>
    rw [q] at h
    exact fun μ1 H1 b x s r => m b H1 μ1 a S1 x (he.ext x) s r (Post.ext (r := k a S1) h x)
  | err c S1 =>
    rw [q] at h
    exact h
  | stuck =>
    rw [q] at h
    exact h
theorem aft_of {r : R Val} {Q : VK} (h : Po X Y (rV X.K) μ H r Q) (n : ∀ c S, r ≠ .err c S) : AfX X Y.T μ H r Q := by
  cases r with
  | ok v S => exact h
  | err c S => exact (n c S rfl).elim
  | stuck => exact h
end
theorem _root_.L2.PE.imp {X : Cx} {e : Expr} {t t' : TE} (h : PE X e t) (i : ∀ σ H Q, t' σ H Q → t σ H Q) : PE X e t' := ⟨fun pins s σ H Q I q => h.run pins s σ H Q I (i σ H Q q)⟩
theorem _root_.L2.PT.imp {X : Cx} {e : Expr} {t t' : TT} (h : PT X e t) (i : ∀ σ H Q, t' σ H Q → t σ H Q) : PT X e t' := ⟨fun pins s σ H Q I q => h.run pins s σ H Q I (i σ H Q q)⟩
theorem _root_.L2.PW.imp {X : Cx} {e : Expr} {t t' : TT} (h : PW X e t) (i : ∀ σ H Q, t' σ H Q → t σ H Q) : PW X e t' := ⟨fun wh pins s σ H Q I q => h.run wh pins s σ H Q I (i σ H Q q)⟩
theorem _root_.L2.PA.imp {X : Cx} {e : List Expr} {t t' : TA} (h : PA X e t) (i : ∀ σ H Q, t' σ H Q → t σ H Q) : PA X e t' := ⟨fun p pins s σ H Q I q => h.run p pins s σ H Q I (i σ H Q q)⟩
theorem _root_.L2.PO.imp {X : Cx} {e : Option Expr} {t t' : TO} (h : PO X e t) (i : ∀ σ H Q, t' σ H Q → t σ H Q) : PO X e t' := ⟨fun pins s σ H Q I q => h.run pins s σ H Q I (i σ H Q q)⟩
theorem _root_.L2.PI.imp {X : Cx} {tg e : Expr} {t t' : TI} (h : PI X tg e t) (i : ∀ σ H Q, t' σ H Q → t σ H Q) : PI X tg e t' := ⟨fun pins s σ H Q I q => h.run pins s σ H Q I (i σ H Q q)⟩
theorem _root_.L2.PG.imp {X : Cx} {e : Expr} {t t' : TG} (h : PG X e t) (i : ∀ v σ H Q, t' v σ H Q → t v σ H Q) : PG X e t' := ⟨fun pins s σ H v u Q I r q => h.run pins s σ H v u Q I r (i v σ H Q q)⟩
theorem _root_.L2.PS.imp {X : Cx} {e : Stmt} {t t' : TS} (h : PS X e t) (i : ∀ D σ H, t' D σ H → t D σ H) : PS X e t' := ⟨fun pins s σ H D I q => h.run pins s σ H D I (i D σ H q)⟩
theorem _root_.L2.PSs.imp {X : Cx} {e : List Stmt} {t t' : TS} (h : PSs X e t) (i : ∀ D σ H, t' D σ H → t D σ H) : PSs X e t' := ⟨fun pins s σ H D I q => h.run pins s σ H D I (i D σ H q)⟩

/-! ### the operations make no error -/
section
variable {S : Store}
theorem ne_bin {o : Op2} {a b : Val} : ∀ c S', binop o a b S ≠ .err c S' := by
  intro c S' h
  unfold binop at h
  repeat' split at h
  all_goals first | cases h | (unfold alloc at h; cases h)
theorem ne_cmp {o : Cm} {a b : Val} : ∀ c S', cmpop o a b S ≠ .err c S' := by
  intro c S' h
  unfold cmpop at h
  split at h <;> cases h
theorem ne_idx {a b : Val} : ∀ c S', idxop a b S ≠ .err c S' := by
  intro c S' h
  unfold idxop at h
  repeat' split at h
  all_goals cases h
theorem ne_slc {a : Val} {l u : Option Int} : ∀ c S', slcop a l u S ≠ .err c S' := by
  intro c S' h
  unfold slcop at h
  repeat' split at h
  all_goals first | cases h | (unfold alloc at h; cases h)
theorem ne_app {a b : Val} : ∀ c S', appop a b S ≠ .err c S' := by
  intro c S' h
  unfold appop at h
  repeat' split at h
  all_goals cases h
theorem ne_get2 {a b d : Val} : ∀ c S', get2op a b d S ≠ .err c S' := by
  intro c S' h
  unfold get2op at h
  repeat' split at h
  all_goals cases h
theorem ne_bi {g : Bool} {o : BI} {a : Val} : ∀ c S', biop g o a S ≠ .err c S' := by
  intro c S' h
  unfold biop at h
  cases o <;> dsimp only at h <;> simp only [lenop, absop, intop, allop, tupleop, listop, dictop, sumop, sortedop, reprop] at h <;> (repeat' split at h)
  all_goals first | cases h | (unfold alloc at h; cases h)
end
end Ev
end

section
set_option Elab.async false
set_option linter.all false
set_option autoImplicit false
set_option maxRecDepth 100000
set_option maxHeartbeats 2000000
/-! EvSim2: defs and their calls, the contexts, what is walked. -/
namespace Ev
open PySem PySem.Spec PyProof.Rows L2 RZ

/-! ### defs -/
structure FnG (P : Program) (w : World) (K : PySem.W.Frag) (mg : Str → Option Value) (base : Heap) (k : Nat) (g : Bool) (f : Addr) (fd : FuncData) (ps : List Str) (sp : Sp) : Prop where
  len : ∀ vs H Q E, sp vs H Q E → vs.length = ps.length
  run : ∀ (A : Around) (outer : List PySem.Env) (s : Shared) (H : Hp) (args : Args) (us : List Value) (vs : List V) (Q : VK) (E : XK), Room k A → (g = true → A.guards = some []) → Env0 P w K mg base A outer s H → BindsTo s fd args (ps.zip us) → Vals vs us → sp vs H Q E →
    codeAny (model P w) A (.call (.ref f) args) (L2.CR (L2.CX P w) outer P w H s Q E) s
theorem FnG.mono {P : Program} {w : World} {K : PySem.W.Frag} {mg : Str → Option Value} {base : Heap} {j k : Nat} {g : Bool} {f : Addr} {fd : FuncData} {ps : List Str} {sp sp' : Sp} (F : FnG P w K mg base j g f fd ps sp) (h : j ≤ k) (i : ∀ vs H Q E, sp' vs H Q E → sp vs H Q E) :
    FnG P w K mg base k g f fd ps sp' := ⟨fun vs H Q E q => F.len vs H Q E (i _ _ _ _ q), fun A outer s H args us vs Q E hr hg he hb hv hs => F.run A outer s H args us vs Q E (hr.mono h) hg he hb hv (i _ _ _ _ hs)⟩
section
variable {X : Cx} {k : Nat} {g : Bool} {f : Addr} {fd : FuncData} {ps : List Str} {sp : Sp} {E : XK} {x : Str} {p pos : Pos} {es : List Expr} {t : TA}
theorem run_fnG {pins : List (Addr × Obj)} {σ : L2.St} {H : Hp} {s : Shared} {Q : VK} {us : List Value} {vs : List V} (F : FnG X.prog X.w X.K X.mg X.base k g f fd ps sp) (hr : Room k X.A) (hgd : g = true → X.A.guards = some []) (hb : Binds X.K fd ps []) (tk : Takes X (fun cls d _ H => E cls d H))
    (I : Inv X pins σ H s) (r : Vals vs us) (h : sp vs H Q E) : wpAny (model X.prog X.w) X.A (call (.ref f) us) (EP X pins σ Q) X.xe s := by
  have hl : (us ++ []).length = ps.length := by
    rw [List.append_nil, ← r.length]
    exact F.len _ _ _ _ h
  have hb2 := hb s us I.kIn hl
  rw [List.append_nil] at hb2
  have tk2 := passes_call (E := E) tk fun _ _ _ _ h => h
  refine wpAny_call (codeAny_mono (F.run X.A X.stack s H ⟨us, []⟩ us vs Q E hr hgd I.env0 hb2 r h) fun fr s2 hq => ?_)
  cases fr with
  | error er => exact tk2 pins σ H s er s2 I hq
  | ok fl =>
    cases fl with
    | ret u => exact I.after hq
    | next => exact False.elim hq
    | brk => exact False.elim hq
    | cont => exact False.elim hq
/-- no star among the arguments -/
def noStar : Expr → Bool
  | .Starred _ _ => false
  | _ => true
theorem starEach_cons {e : Expr} {es : List Expr} {env : PySem.Env} (h : noStar e = true) : starEach (e :: es) env = (false, eval e env) :: starEach es env := by
  cases e <;> first | rfl | cases h
theorem starEach_any {env : PySem.Env} {pos : Pos} : ∀ {es : List Expr}, (∀ e ∈ es, noStar e = true) → (backTo pos (starEach es env)).any (·.1) = false
  | [], _ => rfl
  | e :: es, h => by
    rw [starEach_cons (h e List.mem_cons_self)]
    show (false || (backTo pos (starEach es env)).any (·.1)) = false
    rw [starEach_any fun e he => h e (List.mem_cons_of_mem _ he)]
    rfl
theorem pe_callG {e : Expr} (F : FnG X.prog X.w X.K X.mg X.base k g f fd ps sp) (hr : Room k X.A) (hgd : g = true → X.A.guards = some []) (hg : Gl X x) (hm : X.mg x = some (.ref f)) (hk : PySem.W.keepIn X.K (.ref f) = true) (hb : Binds X.K fd ps []) (tk : Takes X (fun cls d _ H => E cls d H))
    (ha : PA X (e :: es) t) (hs : ∀ a ∈ e :: es, noStar a = true) (hdb : (x == ("__debug__" : Str)) = false) : PE X (.Call (.Name x p) (e :: es) [] pos) (fun σ H Q => t σ H fun vs H1 => sp vs H1 Q E) := by
  refine ⟨fun pins s σ H Q I h => ?_⟩
  refine wpAny_Call_Name_kw (ld_glob I hg hm ?_ hdb)
  have hx := ha.run pos pins s σ H _ I h
  exact PySem.W.callWith_K (h₀ := X.base) I.ok.mod.kin hk (thn hx fun us s1 ⟨vs, H1, I1, r, q⟩ => ⟨I1.kIn, run_fnG F hr hgd hb tk I1 r q⟩) (starEach_cons (hs e List.mem_cons_self)) (starEach_any fun a ha => hs a (List.mem_cons_of_mem _ ha))
theorem pe_callG0 (F : FnG X.prog X.w X.K X.mg X.base k g f fd ps sp) (hr : Room k X.A) (hgd : g = true → X.A.guards = some []) (hg : Gl X x) (hm : X.mg x = some (.ref f)) (hk : PySem.W.keepIn X.K (.ref f) = true) (hb : Binds X.K fd ps []) (tk : Takes X (fun cls d _ H => E cls d H))
    (hdb : (x == ("__debug__" : Str)) = false) : PE X (.Call (.Name x p) [] [] pos) (fun σ H Q => sp [] H Q E) := by
  refine ⟨fun pins s σ H Q I h => ?_⟩
  refine wpAny_Call_Name_kw (ld_glob I hg hm ?_ hdb)
  exact PySem.W.callWith_K0 I.kIn hk (run_fnG (us := []) F hr hgd hb tk I .nil h)
end
/-- what a def promises: what the evaluator says -/
def spOf (P : Program) (w : World) (K : PySem.W.Frag) (T : List (Addr × Str)) (cv : Nat → Value) (C : List Val → Store → R Val) : Sp :=
  fun vs H Q E => ∃ μ S args, StR P w K T μ H S ∧ VRs K μ H args vs ∧ Post P w K ⟨T, cv, E⟩ (rV K) μ H (C args S) Q

/-! ### the module -/
structure Dt where
  G : List Val
  cv : Nat → Value
  fns : List Str
  glb : List Str
  cls : List Str
def bltNames : List Str := ["len", "abs", "int", "all", "tuple", "list", "dict", "sum", "sorted", "repr", "isinstance", "bool", "str", "range", "zip"]
structure Md (K : PySem.W.Frag) (mg : Str → Option Value) (D : Dt) : Prop where
  glb : ∀ (i : Nat) (x : Str), D.glb[i]? = some x → ∃ (u : Value) (v : V) (w : Val), mg x = some u ∧ RelV v u ∧ D.G[i]? = some w ∧ ∀ μ H, VR K μ H w v
  blt : ∀ x ∈ bltNames, mg x = none
  cls : ∀ (i : Nat) (x : Str), D.cls[i]? = some x → ∃ (C : Addr) (bm : List Value) (B n m : String), ExcBaseFacts B n m bm ∧ PySem.W.excIn K C bm n = true ∧ mg x = some (.ref C) ∧ PySem.W.keepIn K (.ref C) = true ∧
    PySem.W.subIn K (.ref C) (.type "BaseException") = some true ∧ PySem.W.typeIn K (.ref C) = some (.type "type") ∧ D.cv i = .ref C
structure Fns (P : Program) (w : World) (K : PySem.W.Frag) (mg : Str → Option Value) (base : Heap) (D : Dt) (T : List (Addr × Str)) (k : Nat) (g : Bool) (C : Calls) : Prop where
  fn : ∀ (i : Nat) (x : Str), D.fns[i]? = some x → ∃ (fa : Addr) (fd : FuncData) (ps : List Str), mg x = some (.ref fa) ∧ PySem.W.keepIn K (.ref fa) = true ∧ Binds K fd ps [] ∧ FnG P w K mg base k g fa fd ps (spOf P w K T D.cv (C i))
/-- x(lambda: body), in a context that has tables for it -/
def LamFact (X : Cx) (Y : Wx) (k : Nat) (x : Str) (lt : R Val → R Val) : Prop :=
  ∀ (params : Arguments) (body : Expr) (scope : Scope) (lpos p pos : Pos) (f : Env → Store → R Val),
    params.posonlyargs = [] → params.args = [] → params.vararg = none → params.kwonlyargs = [] → params.kw_defaults = [] → params.kwarg = none → params.defaults = [] → LamX.lamSB X.env.scope scope = true →
    (∀ (A : Around) (outer : List PySem.Env) (s : Shared) (H : Hp) (E : XK) (fa c : Addr), Room k (A.deeper (LamX.lamEnv X scope s.heap.objs.size fa c)) →
      PE (LamX.lamCx X A outer s H E scope fa c) body (rd (LamX.lamCx X A outer s H E scope fa c) { Y with E := E } (rV X.K) f)) →
    PE X (.Call (.Name x p) [.Lambda params body scope lpos] [] pos) (rd X Y (rV X.K) fun e S => lt (f e S))
/-- a context in which the evaluator's word is the model's -/
structure XOk (D : Dt) (LT : Takers) (k : Nat) (T : TC) (q : Ctx) (X : Cx) (Y : Wx) : Prop where
  fns : T.fns = D.fns
  glb : T.glb = D.glb
  cls : T.cls = D.cls
  cv : Y.cv = D.cv
  N : X.N = T.N
  nd : X.N.Nodup
  vis : ∀ x, locNm T.sc x = true → Vis X.env.scope x
  own : ∀ x, ownNm T.sc x = true → Loc X.env.scope x ∧ (X.fn x = true ∨ X.env.scope.names.lookup x = some .local)
  gl : ∀ x, gloNm T.sc x = true → Gl X x
  free : ∀ x, T.sc.names.lookup x = some .cell ∨ T.sc.names.lookup x = some .free → X.env.scope.names.lookup x = some .cell ∨ X.env.scope.names.lookup x = some .free
  calm : X.calm = true
  tk : Takes X (fun cls d _ H => Y.E cls d H)
  room : Room k X.A
  gd : q.gd = true → X.A.guards = some []
  md : Md X.K X.mg D
  fn : Fns X.prog X.w X.K X.mg X.base D Y.T k q.gd q.C
  lam : ∀ (t : Nat) (x : Str), T.tks[t]? = some x → ∃ j, Fns X.prog X.w X.K X.mg X.base D Y.T j false q.CL ∧ LamFact X Y j x (LT t)
section
variable {D : Dt} {LT : Takers} {k : Nat} {T : TC} {q : Ctx} {X : Cx} {Y : Wx}
theorem XOk.un (h : XOk D LT k T q X Y) : X.A.units + 100 < cLine := by
  have := h.room.un
  omega
theorem plain_dbg {x : Str} (h : plainName x = true) : (x == ("__debug__" : Str)) = false ∧ (x == ("__classdict__" : Str)) = false ∧ x ≠ "__name__" := by
  unfold plainName at h
  simp only [Bool.and_eq_true, Bool.not_eq_true', beq_eq_false_iff_ne] at h
  exact ⟨beq_eq_false_iff_ne.mpr h.1.1, beq_eq_false_iff_ne.mpr h.1.2, h.2⟩
theorem glo_plain {sc : Scope} {x : Str} (h : gloNm sc x = true) : plainName x = true := by
  unfold gloNm at h
  exact (Bool.and_eq_true _ _ ▸ h).1
theorem loc_plain {sc : Scope} {x : Str} (h : locNm sc x = true) : plainName x = true := by
  unfold locNm at h
  exact (Bool.and_eq_true _ _ ▸ h).1
theorem loc_vis {sc : Scope} {x : Str} (h : locNm sc x = true) : Vis sc x := by
  unfold locNm at h
  have h := (Bool.and_eq_true _ _ ▸ h).2
  split at h
  · exact .inl (by assumption)
  · exact .inr (.inl (by assumption))
  · exact .inr (.inr (by assumption))
  · cases h
theorem own_loc {sc : Scope} {x : Str} (h : ownNm sc x = true) : Loc sc x := by
  unfold ownNm at h
  split at h
  · exact .inl (by assumption)
  · exact .inr (by assumption)
  · cases h
theorem glo_look {sc : Scope} {x : Str} (h : gloNm sc x = true) : sc.names.lookup x = some .globalImplicit := by
  unfold gloNm at h
  have h := (Bool.and_eq_true _ _ ▸ h).2
  split at h
  · assumption
  · cases h
theorem XOk.blkOk (h : XOk D LT k T q X Y) {scope : Scope} (b : blkC T.N T.sc scope (ownOf T.N scope) = true) : BlkOk X.N X.env.scope scope (ownOf T.N scope) := by
  have B := blkOk_by b
  exact ⟨B.kind, B.uniq, by rw [h.N]; exact B.ix, fun y hy e => h.free _ (B.free y hy e), by rw [h.N]; exact B.own⟩
/-- a comprehension's block -/
theorem XOk.block (h : XOk D LT k T q X Y) {scope : Scope} (b : blkC T.N T.sc scope (ownOf T.N scope) = true) (s : Shared) (H : Hp) (C : Addr) (cl : List (Str × Addr)) (fp : List Addr) :
    XOk D LT k { T with sc := scope, tks := [] } q (X.blk s H scope (compEnvC scope cl C X.env) fp) { Y with E := fun _ _ _ => False } := by
  have keep : ∀ {x : Str} {n : NameKind}, n ≠ .free → scope.names.lookup x = some n → (relS scope X.env.scope).names.lookup x = some n := fun hn e => lookup_relS_keep hn e
  have fr : ∀ {x : Str}, scope.names.lookup x = some .free → (relS scope X.env.scope).names.lookup x = some .free ∨ (relS scope X.env.scope).names.lookup x = some .cell := fun {x} e => by
    have e2 : ∀ (l : List (Str × NameKind)), l.lookup x = some .free → (l.map fun (n, k) => if (k == NameKind.free && X.env.scope.kind == .function && X.env.scope.names.lookup n == some .cell) then (n, NameKind.cell) else (n, k)).lookup x = some .free ∨ (l.map fun (n, k) => if (k == NameKind.free && X.env.scope.kind == .function && X.env.scope.names.lookup n == some .cell) then (n, NameKind.cell) else (n, k)).lookup x = some .cell := by
      intro l
      induction l with
      | nil => intro z; cases z
      | cons p r ih =>
        obtain ⟨n, kk⟩ := p
        intro z
        rw [List.map_cons]
        cases hx : x == n with
        | true =>
          rw [List.lookup_cons, hx] at z
          cases z
          dsimp only
          split
          · rw [List.lookup_cons, hx]
            exact .inr rfl
          · rw [List.lookup_cons, hx]
            exact .inl rfl
        | false =>
          rw [List.lookup_cons, hx] at z
          dsimp only
          split
          · rw [List.lookup_cons, hx]
            exact ih z
          · rw [List.lookup_cons, hx]
            exact ih z
    exact e2 _ e
  refine ⟨h.fns, h.glb, h.cls, h.cv, h.N, h.nd, fun x hx => ?_, fun x hx => ?_, fun x hx => ?_, fun x hx => ?_, h.calm, LamX.takes0, h.room, h.gd, h.md, h.fn, fun t x hx => ?_⟩
  · show Vis (relS scope X.env.scope) x
    rcases loc_vis hx with z | z | z
    · exact .inl (keep (by decide) z)
    · exact .inr (.inl (keep (by decide) z))
    · rcases fr z with z | z
      · exact .inr (.inr z)
      · exact .inr (.inl z)
  · show Loc (relS scope X.env.scope) x ∧ ((scope.names.lookup x == some NameKind.cell) = true ∨ (relS scope X.env.scope).names.lookup x = some .local)
    rcases own_loc hx with z | z
    · exact ⟨.inl (keep (by decide) z), .inr (keep (by decide) z)⟩
    · have z : scope.names.lookup x = some .cell := z
      exact ⟨.inr (keep (by decide) z), .inl (by rw [z]; rfl)⟩
  · show (relS scope X.env.scope).names.lookup x = some .globalImplicit
    exact keep (by decide) (glo_look hx)
  · show (relS scope X.env.scope).names.lookup x = some .cell ∨ (relS scope X.env.scope).names.lookup x = some .free
    rcases hx with z | z
    · exact .inl (keep (by decide) z)
    · exact (fr z).symm
  · cases hx
/-- a lambda's body -/
theorem XOk.lamb (h : XOk D LT k T q X Y) {scope : Scope} {j : Nat} (F : Fns X.prog X.w X.K X.mg X.base D Y.T j false q.CL) (L : LamX.LamS X.env.scope scope) (A : Around) (outer : List PySem.Env) (s : Shared) (H : Hp) (E : XK) (fa c : Addr) (hr : Room j (A.deeper (LamX.lamEnv X scope s.heap.objs.size fa c))) :
    XOk D LT j { T with sc := scope, tks := [] } q.lam (LamX.lamCx X A outer s H E scope fa c) { Y with E := E } := by
  refine ⟨h.fns, h.glb, h.cls, h.cv, h.N, h.nd, fun x hx => loc_vis hx, fun x hx => ?_, fun x hx => glo_look hx, fun x hx => hx, rfl, takes_of rfl rfl rfl rfl, hr, fun z => (nomatch z), h.md, F, fun t x hx => ?_⟩
  · rcases own_loc hx with z | z
    · exact absurd rfl (L.own _ (PySem.mem_of_lookup z)).1
    · exact absurd rfl (L.own _ (PySem.mem_of_lookup z)).2
  · cases hx
theorem XOk.lamS (h : XOk D LT k T q X Y) {scope : Scope} (b : lamOk T.sc scope = true) : LamX.lamSB X.env.scope scope = true := by
  unfold lamOk LamX.lamSB at b
  unfold LamX.lamSB
  simp only [Bool.and_eq_true, Bool.or_eq_true, Bool.not_eq_true', decide_eq_true_eq, decide_eq_false_iff_not, List.all_eq_true] at b ⊢
  refine ⟨b.1, fun y hy => ⟨(b.2 y hy).1, ?_⟩⟩
  rcases (b.2 y hy).2 with (z | z) | z
  · exact .inl (.inl z)
  · exact (h.free _ (.inl z)).elim (fun a => .inl (.inr a)) .inr
  · exact (h.free _ (.inr z)).elim (fun a => .inl (.inr a)) .inr
end

/-! ### what is walked -/
inductive SrcR (K : PySem.W.Frag) (μ : List Addr) (H : Hp) : Src → It → Prop
  | tup {vs : List Val} {a : Addr} {xs : List V} (h : TupS K H a xs) (r : VRs K μ H vs xs) : SrcR K μ H (.tup vs) (Itt K a)
  | rol {vs : List Val} {a : Addr} {xs : List V} (h : LstS K H a xs) (r : VRs K μ H vs xs) : SrcR K μ H (.rol vs) (Itl K a)
  | lst {n : Nat} {a : Addr} (h : μ[n]? = some a) : SrcR K μ H (.lst n) (Itl K a)
  | rng (n : Nat) : SrcR K μ H (.rng n) (Itr 0 n)
  | zipT {vs ws : List Val} {a b : Addr} {xs ys : List V} (h : TupS K H a xs) (r : VRs K μ H vs xs) (h' : TupS K H b ys) (r' : VRs K μ H ws ys) : SrcR K μ H (.zip (.tup vs) (.tup ws)) (ItzT K a b)
  | zipL {m n : Nat} {a b : Addr} (h : μ[m]? = some a) (h' : μ[n]? = some b) : SrcR K μ H (.zip (.lst m) (.lst n)) (Itz K a b)
theorem SrcR.ext {K : PySem.W.Frag} {μ μ1 : List Addr} {H H1 : Hp} {s : Src} {J : It} (r : SrcR K μ H s J) (e : Ext K μ H μ1 H1) : SrcR K μ1 H1 s J := by
  cases r with
  | tup h r => exact .tup (e.tp _ _ h) (r.ext e)
  | rol h r => exact .rol (e.lp _ _ h) (r.ext e)
  | lst h => exact .lst (e.ob _ _ h)
  | rng n => exact .rng n
  | zipT h r h' r' => exact .zipT (e.tp _ _ h) (r.ext e) (e.tp _ _ h') (r'.ext e)
  | zipL h h' => exact .zipL (e.ob _ _ h) (e.ob _ _ h')
/-- a walked value, as its target takes it -/
def VGr (K : PySem.W.Frag) (μ : List Addr) (H : Hp) (t : Tg) (v : Val) (x : V) : Prop :=
  VR K μ H v x ∨ ((∃ ts, t = .tup ts) ∧ ∃ (vs : List Val) (a : Addr) (xs : List V), v = .tup vs ∧ x = .ref a ∧ SqT K H a xs ∧ VRs K μ H vs xs)
section
variable {X : Cx} {Y : Wx} {μ : List Addr} {H : Hp} {S : Store}
theorem src_lst (hs : StX X Y.T μ H S) {n i : Nat} {a : Addr} (h : μ[n]? = some a) :
    ((Src.lst n).at S i = some none → ∃ xs, SqL X.K H a xs ∧ xs.length ≤ i) ∧ (∀ v, (Src.lst n).at S i = some (some v) → ∃ xs x, SqL X.K H a xs ∧ xs[i]? = some x ∧ VR X.K μ H v x) := by
  have go : ∀ (c : Cell) (vs : List Val), S[n]? = some c → (c = .lst vs) → (vs[i]? = none → ∃ xs, SqL X.K H a xs ∧ xs.length ≤ i) ∧ (∀ v, vs[i]? = some v → ∃ xs x, SqL X.K H a xs ∧ xs[i]? = some x ∧ VR X.K μ H v x) := fun c vs hn hc => by
    obtain ⟨xs, h1, h2⟩ := sqL_of_cell hs hn hc h
    refine ⟨fun e => ⟨xs, h1, ?_⟩, fun v e => ?_⟩
    · rw [← h2.length]
      exact List.getElem?_eq_none_iff.mp e
    · obtain ⟨x, h3, h4⟩ := h2.get e
      exact ⟨xs, x, h1, h3, h4⟩
  unfold Src.at
  split
  · rename_i vs hn
    obtain ⟨g1, g2⟩ := go _ vs hn rfl
    exact ⟨fun e => g1 (Option.some.inj e), fun v e => g2 v (Option.some.inj e)⟩
  · exact ⟨fun e => by (cases e), fun v e => by (cases e)⟩
theorem src_tup {a : Addr} {vs : List Val} {xs : List V} {i : Nat} (r : VRs X.K μ H vs xs) : (vs[i]? = none → xs.length ≤ i) ∧ (∀ v, vs[i]? = some v → ∃ x, xs[i]? = some x ∧ VR X.K μ H v x) :=
  ⟨fun e => by rw [← r.length]; exact List.getElem?_eq_none_iff.mp e, fun v e => r.get e⟩
/-- a turn, or the end -/
theorem src_at {pins : List (Addr × Obj)} {s : Src} {J : It} {i : Nat} (hs : StX X Y.T μ H S) (r : SrcR X.K μ H s J) :
    (s.at S i = some none → J.stop i H) ∧ ∀ v t, s.at S i = some (some v) → tgOk s t = true → J.go i H ∧ ∀ x H', J.yld i H x H' → Ext X.K μ H μ H' ∧ StX X Y.T μ H' S ∧ (∀ a o, H a = some o → H' a = some o) ∧ VGr X.K μ H' t v x := by
  have pair : ∀ {p : Addr} {x y : V}, H p = none → Ext X.K μ H μ (upd H p (.tup [x, y])) ∧ StX X Y.T μ (upd H p (.tup [x, y])) S ∧ (∀ a o, H a = some o → upd H p (.tup [x, y]) a = some o) := fun hp => ⟨.new hp, hs.new hp, fun a o e => by rw [upd_ne (ne_of_none e hp)]; exact e⟩
  have two : ∀ {p : Addr} {x y : V} {v u : Val} {t : Tg}, H p = none → VR X.K μ H v x → VR X.K μ H u y → (∃ ts, t = .tup ts) → VGr X.K μ (upd H p (.tup [x, y])) t (.tup [v, u]) (.ref p) := fun {p x y v u t} hp r1 r2 ht =>
    .inr ⟨ht, _, p, [x, y], rfl, rfl, SqT.of upd_same, .cons (r1.ext (.new hp)) (.cons (r2.ext (.new hp)) .nil)⟩
  cases r with
  | @tup vs a xs h r =>
    obtain ⟨g1, g2⟩ := src_tup (X := X) (i := i) (a := a) r
    refine ⟨fun e => ⟨xs, h.sq, g1 (Option.some.inj e)⟩, fun v t e _ => ?_⟩
    obtain ⟨x, h1, h2⟩ := g2 v (Option.some.inj e)
    refine ⟨⟨xs, x, h.sq, h1⟩, fun x' H' ⟨e1, e2⟩ => ?_⟩
    subst e1
    have := e2 xs h.sq
    rw [h1] at this
    cases this
    exact ⟨.refl, hs, fun _ _ e => e, .inl h2⟩
  | @rol vs a xs h r =>
    obtain ⟨g1, g2⟩ := src_tup (X := X) (i := i) (a := a) r
    refine ⟨fun e => ⟨xs, h.sq, g1 (Option.some.inj e)⟩, fun v t e _ => ?_⟩
    obtain ⟨x, h1, h2⟩ := g2 v (Option.some.inj e)
    refine ⟨⟨xs, x, h.sq, h1⟩, fun x' H' ⟨e1, e2⟩ => ?_⟩
    subst e1
    have := e2 xs h.sq
    rw [h1] at this
    cases this
    exact ⟨.refl, hs, fun _ _ e => e, .inl h2⟩
  | @lst n a h =>
    obtain ⟨g1, g2⟩ := src_lst (X := X) (Y := Y) (i := i) hs h
    refine ⟨fun e => g1 e, fun v t e _ => ?_⟩
    obtain ⟨xs, x, h1, h2, h3⟩ := g2 v e
    refine ⟨⟨xs, x, h1, h2⟩, fun x' H' ⟨e1, e2⟩ => ?_⟩
    subst e1
    have := e2 xs h1
    rw [h2] at this
    cases this
    exact ⟨.refl, hs, fun _ _ e => e, .inl h3⟩
  | rng n =>
    refine ⟨fun e => ?_, fun v t e _ => ?_⟩
    · have e := Option.some.inj e
      split at e
      · cases e
      · show n ≤ i
        omega
    · have e := Option.some.inj e
      split at e
      · rename_i hi
        cases e
        refine ⟨hi, fun x' H' ⟨e1, e2⟩ => ?_⟩
        subst e1 e2
        exact ⟨.refl, hs, fun _ _ e => e, .inl (by rw [Int.zero_add]; exact .int _)⟩
      · cases e
  | @zipT vs ws a b xs ys h r h' r' =>
    obtain ⟨g1, g2⟩ := src_tup (X := X) (i := i) (a := a) r
    obtain ⟨g3, g4⟩ := src_tup (X := X) (i := i) (a := b) r'
    have ea : (Src.tup vs).at S i = some vs[i]? := rfl
    have eb : (Src.tup ws).at S i = some ws[i]? := rfl
    unfold Src.at
    rw [ea, eb]
    cases e1 : vs[i]? with
    | none =>
      refine ⟨fun _ => ⟨xs, ys, h.sq, h'.sq, .inl (g1 e1)⟩, fun v t e _ => ?_⟩
      cases e
    | some v1 =>
      cases e2 : ws[i]? with
      | none =>
        refine ⟨fun _ => ⟨xs, ys, h.sq, h'.sq, .inr (g3 e2)⟩, fun v t e _ => ?_⟩
        cases e
      | some v2 =>
        refine ⟨fun e => by (cases e), fun v t e ht => ?_⟩
        cases e
        obtain ⟨x, h1, h2⟩ := g2 v1 e1
        obtain ⟨y, h3, h4⟩ := g4 v2 e2
        refine ⟨⟨xs, ys, x, y, h.sq, h'.sq, h1, h3⟩, fun x' H' ⟨p, x2, y2, q1, q2, q3, q4, q5⟩ => ?_⟩
        subst q1 q3
        have z1 := q4 xs h.sq
        have z2 := q5 ys h'.sq
        rw [h1] at z1
        rw [h3] at z2
        cases z1; cases z2
        obtain ⟨p1, p2, p3⟩ := pair (x := x) (y := y) q2
        refine ⟨p1, p2, p3, two q2 h2 h4 ?_⟩
        cases t with
        | name n => cases ht
        | tup ts => exact ⟨ts, rfl⟩
  | @zipL m n a b h h' =>
    obtain ⟨g1, g2⟩ := src_lst (X := X) (Y := Y) (i := i) hs h
    obtain ⟨g3, g4⟩ := src_lst (X := X) (Y := Y) (i := i) hs h'
    have al : ∀ {n : Nat} {a : Addr} {r : Option Val}, μ[n]? = some a → (Src.lst n).at S i = some r → ∃ xs, SqL X.K H a xs := fun {n a r} hm e => by
      obtain ⟨u1, u2⟩ := src_lst (X := X) (Y := Y) (i := i) hs hm
      cases r with
      | none => obtain ⟨xs, z, _⟩ := u1 e; exact ⟨xs, z⟩
      | some v => obtain ⟨xs, _, z, _⟩ := u2 v e; exact ⟨xs, z⟩
    have ez : (Src.zip (.lst m) (.lst n)).at S i = (match (Src.lst m).at S i, (Src.lst n).at S i with
      | some (some x), some (some y) => some (some (.tup [x, y]))
      | some none, some _ => some none
      | some (some _), some none => some none
      | _, _ => none) := rfl
    rw [ez]
    split
    · rename_i v1 v2 e1 e2
      refine ⟨fun e => by (cases e), fun v t e ht => ?_⟩
      cases e
      obtain ⟨xs, x, k1, h1, h2⟩ := g2 v1 e1
      obtain ⟨ys, y, k2, h3, h4⟩ := g4 v2 e2
      refine ⟨⟨xs, ys, x, y, k1, k2, h1, h3⟩, fun x' H' ⟨p, x2, y2, q1, q2, q3, q4, q5⟩ => ?_⟩
      subst q1 q3
      have z1 := q4 xs k1
      have z2 := q5 ys k2
      rw [h1] at z1
      rw [h3] at z2
      cases z1; cases z2
      obtain ⟨p1, p2, p3⟩ := pair (x := x) (y := y) q2
      refine ⟨p1, p2, p3, two q2 h2 h4 ?_⟩
      cases t with
      | name n => cases ht
      | tup ts => exact ⟨ts, rfl⟩
    · rename_i e1 e2
      refine ⟨fun _ => ?_, fun v t e _ => by (cases e)⟩
      obtain ⟨xs, k1, h1⟩ := g1 e1
      obtain ⟨ys, k2⟩ := al h' e2
      exact ⟨xs, ys, k1, k2, .inl h1⟩
    · rename_i e1 e2
      refine ⟨fun _ => ?_, fun v t e _ => by (cases e)⟩
      obtain ⟨xs, k1⟩ := al h e1
      obtain ⟨ys, k2, h2⟩ := g3 e2
      exact ⟨xs, ys, k1, k2, .inr h2⟩
    · exact ⟨fun e => by (cases e), fun v t e _ => by (cases e)⟩
end
end Ev
end

section
set_option Elab.async false
set_option linter.all false
set_option autoImplicit false
set_option maxRecDepth 100000
set_option maxHeartbeats 4000000
/-! EvSimE: the evaluator's word on expressions is the model's. -/
namespace Ev
open PySem PySem.Spec PyProof.Rows L2 RZ
theorem R.assoc {α β γ : Type} (r : R α) (k : α → Store → R β) (l : β → Store → R γ) : (r.bind k).bind l = r.bind fun a S => (k a S).bind l := by
  cases r <;> rfl
def onB (v : Val) (S : Store) : R Bool := match v with
  | .bl b => .ok b S
  | _ => .stuck
def onI (v : Val) (S : Store) : R Int := match v with
  | .int i => .ok i S
  | _ => .stuck
theorem asB_bind (r : R Val) : asB r = r.bind onB := rfl
theorem asI_bind (r : R Val) : asI r = r.bind onI := rfl
section
variable {G : List Val} {LT : Takers} {q : Ctx} {X : Cx} {Y : Wx} {k : Nat} {T : TC}
abbrev rdE (X : Cx) (Y : Wx) (q : Ctx) (G : List Val) (LT : Takers) (i : IE) : TE := rd X Y (rV X.K) (evE G LT i q)
abbrev rdT (X : Cx) (Y : Wx) (q : Ctx) (G : List Val) (LT : Takers) (i : IE) : TT := rd X Y rEq (fun e S => asB (evE G LT i q e S))
abbrev rdL (X : Cx) (Y : Wx) (q : Ctx) (G : List Val) (LT : Takers) (i : IEs) : TA := rd X Y (rVs X.K) (evL G LT i q)
abbrev rdO (X : Cx) (Y : Wx) (q : Ctx) (G : List Val) (LT : Takers) (i : IO) : TO := rd X Y rEq (evO G LT i q)
abbrev rdC (X : Cx) (Y : Wx) (q : Ctx) (G : List Val) (LT : Takers) (i : IO) : TT := rd X Y rEq (evC G LT i q)
abbrev rdI (X : Cx) (Y : Wx) (q : Ctx) (G : List Val) (LT : Takers) (i : II) : TI := rd X Y (SrcR X.K) (evI G LT i q)
/-- a test, by the value -/
theorem rdT_to {i : IE} {σ : L2.St} {H : Hp} {Q : Bool → Hp → Prop} (h : rdT X Y q G LT i σ H Q) : rdE X Y q G LT i σ H fun x H1 => ∃ c, x = .bl c ∧ Q c H1 := by
  obtain ⟨μ, e, S, he, hs, h⟩ := h
  refine rd_bind (Rm := rEq) (k := onB) (Q := Q) he hs h fun x H1 μ1 v S1 _ _ hs1 rv h1 => ?_
  unfold onB at h1
  split at h1
  · cases rv
    exact ⟨_, rfl, h1 _ _ _ .refl hs1 rfl⟩
  · exact h1.elim
theorem rdI_to {i : IE} {σ : L2.St} {H : Hp} {Q : Int → Hp → Prop} (h : rd X Y rEq (fun e S => asI (evE G LT i q e S)) σ H Q) : rdE X Y q G LT i σ H fun x H1 => ∃ c, x = .int c ∧ Q c H1 := by
  obtain ⟨μ, e, S, he, hs, h⟩ := h
  refine rd_bind (Rm := rEq) (k := onI) (Q := Q) he hs h fun x H1 μ1 v S1 _ _ hs1 rv h1 => ?_
  unfold onI at h1
  split at h1
  · cases rv
    exact ⟨_, rfl, h1 _ _ _ .refl hs1 rfl⟩
  · exact h1.elim
theorem pt_plain {e : Expr} {i : IE} (h : PE X e (rdE X Y q G LT i)) (he : ∀ whole, isTrue e X.env whole = (do let v ← whole; standAt e.pos; holding [v] (truthy v)) := by intro _; rfl) : PT X e (rdT X Y q G LT i) :=
  (pt_val h he).imp fun σ H Q w => rdT_to w
theorem both {e : Expr} {i : IE} (h : PE X e (rdE X Y q G LT i)) (he : ∀ whole, isTrue e X.env whole = (do let v ← whole; standAt e.pos; holding [v] (truthy v)) := by intro _; rfl) : PE X e (rdE X Y q G LT i) ∧ PT X e (rdT X Y q G LT i) := ⟨h, pt_plain h he⟩
/-- a tuple display: the very object is known -/
theorem pe_tupF {es : List Expr} {n : Nat} {pos : Pos} {t : TA} (h : PA X es t) : PE X (.Tuple es n pos) (fun σ H Q => t σ H fun xs H1 => xs.length ≤ sizeLine ∧ ∀ (p : Addr) (o : Obj), o.dict = none → H1 p = none → Q (.ref p) (upd H1 p (.frz o (.tup xs)))) := by
  refine ⟨fun pins s σ H Q I hq => ?_⟩
  refine wpAny_Tuple_spliced (thn (h.run pos pins s σ H _ I hq) fun us s1 ⟨xs, H1, I1, r, z, w⟩ => ⟨by rw [← r.length]; exact z, ?_⟩)
  obtain ⟨o, d, J⟩ := laid_tup (t' := s1.toks) I1 r z
  exact ⟨.ref s1.heap.objs.size, _, J, rfl, w _ o d (fresh_at I1)⟩
theorem pe_dnew {pos : Pos} : PE X (.Dict [] [] pos) (fun _ H Q => ∀ (p : Addr) (o : Obj), DicO X.prog X.w o [] → (p == sysModules) = false → H p = none → Q (.ref p) (upd H p (ExO p o))) := by
  refine ⟨fun pins s σ H Q I h => wpAny_Dict_empty ?_⟩
  refine ⟨.ref s.heap.objs.size, _, I.laid (a := s.heap.objs.size) (o := ExO s.heap.objs.size { cls := .type "dict", data := .dict #[] }) (t' := s.toks) (fun _ _ w => Heap.get?_push_of_some _ w) (Nat.le_refl _) (exO_ok (Heap.get?_push_size _ rfl)), rfl,
    h _ _ ⟨⟨rfl, rfl, rfl⟩, ⟨#[], 0, rfl, rfl⟩, List.nodup_nil⟩ (beq_eq_false_iff_ne.mpr (Nat.ne_of_gt I.big)) (fresh_at I)⟩
/-- t[::-1] -/
theorem pe_revT {e : Expr} {te : TE} {j : Nat} {p1 p2 p3 pos : Pos} (he : PE X e te) :
    PE X (.Subscript e (.Slice none none (some (.UnaryOp .USub (.Constant (.int 1) j p1) p2)) p3) pos) (fun σ H Q => te σ H fun x H1 => ∃ a xs, x = .ref a ∧ TupS X.K H1 a xs ∧ ∀ (p : Addr) (o : Obj), o.dict = none → H1 p = none → Q (.ref p) (upd H1 p (.frz o (.tup xs.reverse)))) := by
  refine ⟨fun pins s σ H Q I h => ?_⟩
  refine Subscript_ (thn (he.run pins s σ H _ I h) fun v s1 ⟨x, H1, I1, r1, q1⟩ => ?_)
  obtain ⟨a, xs, ex, hx, w⟩ := q1
  subst ex
  cases r1
  have minus : PO X (some (.UnaryOp .USub (.Constant (.int 1) j p1) p2)) (tPart (tUn (rU fun i => .int (-i)) (tC (.int 1)))) := po_some (pe_un un_neg pe_int)
  refine wpAny_Slice (thn (po_none.run pins s1 σ H1 (fun o H2 => o = none ∧ H2 = H1) I1 ⟨rfl, rfl⟩) fun vl s2 ⟨l, H2, I2, pl, el, e2⟩ => ?_)
  subst el e2
  refine thn (po_none.run pins s2 σ H2 (fun o H3 => o = none ∧ H3 = H2) I2 ⟨rfl, rfl⟩) fun vu s3 ⟨u, H3, I3, pu, eu, e3⟩ => ?_
  subst eu e3
  refine thn (minus.run pins s3 σ H3 (fun o H4 => o = some (-1) ∧ H4 = H3) I3 ⟨1, rfl, -1, rfl, rfl, rfl⟩) fun vs s4 ⟨o, H4, I4, ps, eo, e4⟩ => ?_
  subst eo e4
  have I5 : Inv X pins σ H4 { s4 with heap := s4.heap.push { cls := .type "slice", data := .fields #[vl, vu, vs] } } := I4.kept (t' := s4.toks) fun b ob z => Heap.get?_push_of_some _ z
  obtain ⟨its, r, t1, hz⟩ := tupS_obj I5 hx
  have ht := t1.isTup
  have hlen := r.length
  cases pl
  cases pu
  show wpAny (model X.prog X.w) X.A (subscriptTail e (.Slice none none (some (.UnaryOp .USub (.Constant (.int 1) j p1) p2)) p3) (.ref a) (.ref s4.heap.objs.size)) (EP X pins σ Q) X.xe { s4 with heap := s4.heap.push { cls := .type "slice", data := .fields #[.none, .none, vs] } }
  refine tail_any (ops := [.ref a, .ref s4.heap.objs.size]) ht.typeIs (PyProof.Rows.slot_tuple_getitem.lookup) ?_ (by with_unfolding_all rfl)
  refine getItem_rev ht (Heap.IsSliceOf.new _ .none .none vs) ps ?_ (by rw [List.size_toArray]; omega)
  obtain ⟨ob, d, J⟩ := laid_tup (t' := s4.toks) I5 r.reverse (by rw [List.length_reverse]; exact hz)
  exact ⟨.ref _, _, J, rfl, w _ ob d (fresh_at I5)⟩
end
/-! ### a list or a tuple, walked -/
theorem pi_seq {X : Cx} {tg l : Expr} {tl : TE} (hl : PE X l tl) : PI X tg l (fun σ H R => tl σ H fun x H1 => ∃ a, x = .ref a ∧ ((∃ xs, SqL X.K H1 a xs ∧ R (Itl X.K a) H1) ∨ ∃ xs, SqT X.K H1 a xs ∧ R (Itt X.K a) H1)) := by
  refine ⟨fun pins s σ H R I h => ?_⟩
  refine thn (hl.run pins s σ H _ I h) fun v s1 ⟨x, H1, I1, r1, q1⟩ => ?_
  obtain ⟨a, ea, q1⟩ := q1
  subst ea
  cases r1
  have end_ : ∀ {b : Addr}, b ∈ [s1.heap.objs.size] → FpOk X pins H1 b := fun {b} hb => by
    rw [List.mem_singleton.mp hb]
    exact I1.fpOk (Nat.le_refl _) (fresh_at I1)
  rcases q1 with ⟨xs, hq, w⟩ | ⟨xs, hq, w⟩
  · obtain ⟨its, rv, p, hz⟩ := I1.list hq
    refine wpAny_pyIter_list p.isList ?_
    exact ⟨s1.heap.objs.size, [s1.heap.objs.size], _, _, H1, rfl, I1.kept (t' := s1.toks) fun b o e => Heap.get?_push_of_some _ e, turn_list a _, ⟨_, Heap.get?_push_size _ rfl, rfl, rfl⟩, fun b hb => end_ hb, w⟩
  · obtain ⟨its, rv, p, hz⟩ := I1.tuple hq
    refine wpAny_pyIter_tuple (show s1.heap.IsTuple a its.toArray from p) ?_
    exact ⟨s1.heap.objs.size, [s1.heap.objs.size], _, _, H1, rfl, I1.kept (t' := s1.toks) fun b o e => Heap.get?_push_of_some _ e, turn_tuple a _, ⟨_, Heap.get?_push_size _ rfl, rfl, rfl⟩, fun b hb => end_ hb, w⟩
/-! ### targets -/
/-- what a target stores; the heap stays -/
def rdG (X : Cx) (Y : Wx) (t : Tg) : TG := fun x σ H Q => ∃ μ e v e', EnvR X.K μ H e σ ∧ VGr X.K μ H t v x ∧ setT t v e = some e' ∧ ∀ σ', EnvR X.K μ H e' σ' → (∀ own, tgIn own t = true → L2.wipe σ' own = L2.wipe σ own) → Q σ' H
def rdGs (X : Cx) (Y : Wx) (t : Tgs) : TGs := fun xs σ H Q => ∃ μ e vs e', EnvR X.K μ H e σ ∧ VRs X.K μ H vs xs ∧ setTs t vs e = some e' ∧ ∀ σ', EnvR X.K μ H e' σ' → (∀ own, tgsIn own t = true → L2.wipe σ' own = L2.wipe σ own) → Q σ' H
theorem wipe_set {σ : L2.St} {i : Nat} {x : Option V} : ∀ {l : List Nat}, i ∈ l → L2.wipe (σ.set i x) l = L2.wipe σ l := by
  have key : ∀ (l : List Nat) (σ : L2.St), L2.wipe (σ.set i x) l = if i ∈ l then L2.wipe σ l else (L2.wipe σ l).set i x := by
    intro l
    induction l with
    | nil => intro σ; rfl
    | cons j l ih =>
      intro σ
      unfold L2.wipe
      rw [ih σ]
      by_cases h : i ∈ l
      · rw [if_pos h, if_pos (List.mem_cons_of_mem _ h)]
      · rw [if_neg h]
        by_cases hj : i = j
        · subst hj
          rw [if_pos List.mem_cons_self, List.set_set]
        · rw [if_neg (by simp [h, hj]), List.set_comm _ _ hj]
  intro l h
  rw [key l σ, if_pos h]
section
variable {X : Cx} {Y : Wx} {T : TC}
theorem setT_len : ∀ (t : Tg), (∀ v (e e' : Env), setT t v e = some e' → e'.length = e.length) := by
  intro t
  refine Tg.rec (motive_1 := fun t => ∀ v (e e' : Env), setT t v e = some e' → e'.length = e.length) (motive_2 := fun ts => ∀ vs (e e' : Env), setTs ts vs e = some e' → e'.length = e.length) ?_ ?_ ?_ ?_ t
  · intro i v e e' h
    unfold setT at h
    split at h
    · cases h
      simp
    · cases h
  · intro ts ih v e e' h
    unfold setT at h
    split at h
    · exact ih _ _ _ h
    · cases h
  · intro vs e e' h
    cases vs with
    | nil => unfold setTs at h; cases h; rfl
    | cons v vs => unfold setTs at h; cases h
  · intro t ts iht ihs vs e e' h
    cases vs with
    | nil => unfold setTs at h; cases h
    | cons v vs =>
      unfold setTs at h
      split at h
      · rename_i e1 h1
        rw [ihs _ _ _ h, iht _ _ _ h1]
      · cases h
theorem tg_noStar {d : Nat} {e : Expr} {t : Tg} (h : trT T d e = some t) : noStar e = true := by
  cases e <;> first | rfl | (cases d <;> cases h)
theorem assignEach_all {env : PySem.Env} : ∀ {es : List Expr}, (∀ e ∈ es, noStar e = true) → assignEach es env = es.map fun e => (false, assign e env)
  | [], _ => rfl
  | e :: es, h => by
    have h1 : assignEach (e :: es) env = (false, assign e env) :: assignEach es env := by
      have := h e List.mem_cons_self
      cases e <;> first | rfl | cases this
    rw [h1, assignEach_all fun a ha => h a (List.mem_cons_of_mem _ ha)]
    rfl
theorem pg_all (hN : X.N = T.N) (nd : X.N.Nodup) (hc : X.calm = true) (own : ∀ x, ownNm T.sc x = true → Loc X.env.scope x ∧ (X.fn x = true ∨ X.env.scope.names.lookup x = some .local)) : ∀ (d : Nat),
    (∀ (e : Expr) (t : Tg), trT T d e = some t → PG X e (rdG X Y t)) ∧ (∀ (es : List Expr) (ts : Tgs), trTs T d es = some ts → PGs X es (rdGs X Y ts) ∧ (∀ e ∈ es, noStar e = true) ∧ ∀ (vs : List Val) (e e' : Env), setTs ts vs e = some e' → vs.length = es.length)
  | 0 => ⟨fun e t h => by (unfold trT at h; cases h), fun es ts h => by (unfold trTs at h; cases h)⟩
  | d + 1 => by
    obtain ⟨ih1, ih2⟩ := pg_all hN nd hc own d
    refine ⟨fun e t h => ?_, fun es ts h => ?_⟩
    · unfold trT at h
      split at h
      · rename_i x pos
        split at h
        · rename_i hx
          obtain ⟨i, hi, rfl⟩ := Option.map_eq_some_iff.mp h
          obtain ⟨o1, o2⟩ := own x hx.1
          refine (pg_name nd (by rw [hN]; exact ixOf_get hi) o1 o2).imp fun v σ H Q w => ?_
          obtain ⟨μ, e, u, e', he, rv, hst, w⟩ := w
          unfold setT at hst
          split at hst
          · cases hst
            have rv : VR X.K μ H u v := by
              rcases rv with rv | ⟨⟨ts, z⟩, _⟩
              · exact rv
              · cases z
            refine w _ (he.set i rv) fun own ho => wipe_set ?_
            unfold tgIn at ho
            exact of_decide_eq_true ho
          · cases hst
        · cases h
      · rename_i es n pos
        obtain ⟨ts, hts, rfl⟩ := Option.map_eq_some_iff.mp h
        obtain ⟨p1, p2, p3⟩ := ih2 es ts hts
        have ea := assignEach_all (env := X.env) p2
        refine (pg_tup (n := es.length) hc p1 (by rw [ea, List.length_map]) (by rw [ea]; simp [List.findIdx?_map])).imp fun v σ H Q w => ?_
        obtain ⟨μ, e, u, e', he, rv, hst, w⟩ := w
        unfold setT at hst
        split at hst
        · rename_i vs
          have key : ∃ a xs, v = .ref a ∧ SqT X.K H a xs ∧ VRs X.K μ H vs xs := by
            rcases rv with rv | ⟨_, vs', a, xs, e1, e2, h1, h2⟩
            · cases rv with
              | tup h r => exact ⟨_, _, rfl, h.sq, r⟩
            · cases e1
              exact ⟨a, xs, e2, h1, h2⟩
          obtain ⟨a, xs, rfl, h1, h2⟩ := key
          refine ⟨a, xs, rfl, h1, ?_, μ, e, vs, e', he, h2, hst, fun σ' he' hw => w σ' he' fun own ho => hw own (by unfold tgIn at ho; exact ho)⟩
          rw [← h2.length]
          exact p3 vs e e' hst
        · cases hst
      · cases h
    · cases es with
      | nil =>
        unfold trTs at h
        cases h
        refine ⟨⟨fun pins s σ H vs us Q I r w => ?_⟩, fun e he => absurd he (by simp), fun vs e e' hst => ?_⟩
        · obtain ⟨μ, e, us', e', he, rv, hst, w⟩ := w
          cases vs with
          | nil => exact pgs_nil.run pins s σ H [] us Q I r ⟨rfl, by
              cases rv
              unfold setTs at hst
              cases hst
              exact w σ he fun _ _ => rfl⟩
          | cons v vs =>
            cases rv
            unfold setTs at hst
            cases hst
        · cases vs with
          | nil => rfl
          | cons v vs => unfold setTs at hst; cases hst
      | cons e es =>
        unfold trTs at h
        obtain ⟨t, ht, h⟩ := Option.bind_eq_some_iff.mp h
        obtain ⟨ts, hts, rfl⟩ := Option.map_eq_some_iff.mp h
        have g1 := ih1 e t ht
        obtain ⟨p1, p2, p3⟩ := ih2 es ts hts
        have ne := tg_noStar ht
        have ea : (assignEach (e :: es) X.env).map (·.2) = assign e X.env :: (assignEach es X.env).map (·.2) := by
          rw [assignEach_all (es := e :: es) (fun a ha => by
            rcases List.mem_cons.mp ha with rfl | ha
            · exact ne
            · exact p2 a ha), assignEach_all p2]
          rfl
        refine ⟨⟨fun pins s σ H vs us Q I r w => (pgs_cons g1 p1 ea).run pins s σ H vs us Q I r ?_⟩, fun a ha => ?_, fun vs e0 e' hst => ?_⟩
        · obtain ⟨μ, e0, us', e', he, rv, hst, w⟩ := w
          cases us' with
          | nil => unfold setTs at hst; cases hst
          | cons v us' =>
            unfold setTs at hst
            split at hst
            · rename_i e1 h1
              cases rv with
              | cons rv rvs =>
                refine ⟨_, _, rfl, μ, e0, v, e1, he, .inl rv, h1, fun σ1 he1 w1 => ?_⟩
                refine ⟨μ, e1, us', e', he1, rvs, hst, fun σ2 he2 w2 => w σ2 he2 fun own ho => ?_⟩
                unfold tgsIn at ho
                rw [Bool.and_eq_true] at ho
                rw [w2 own ho.2, w1 own ho.1]
            · cases hst
        · rcases List.mem_cons.mp ha with rfl | ha
          · exact ne
          · exact p2 a ha
        · cases vs with
          | nil => unfold setTs at hst; cases hst
          | cons v vs =>
            unfold setTs at hst
            split at hst
            · rw [List.length_cons, List.length_cons, p3 vs _ _ hst]
            · cases hst
end
end Ev
end

section
set_option Elab.async false
set_option linter.all false
set_option autoImplicit false
set_option maxRecDepth 100000
set_option maxHeartbeats 8000000
/-! EvSimF: the theorem on expressions. -/
namespace Ev
open PySem PySem.Spec PyProof.Rows L2 RZ
section
variable {D : Dt} {LT : Takers} {q : Ctx} {X : Cx} {Y : Wx} {k : Nat} {T : TC}
theorem tr_noStar {d : Nat} {e : Expr} {i : IE} (h : trE T d e = some i) : noStar e = true := by
  cases e <;> first | rfl | (cases d <;> cases h)
theorem trL_noStar : ∀ {d : Nat} {es : List Expr} {is : IEs}, trL T d es = some is → ∀ e ∈ es, noStar e = true
  | 0, es, is, h => by unfold trL at h; cases h
  | d + 1, [], is, h => fun e he => absurd he (by simp)
  | d + 1, e :: es, is, h => by
    unfold trL at h
    obtain ⟨x, hx, h⟩ := Option.bind_eq_some_iff.mp h
    obtain ⟨xs, hxs, _⟩ := Option.map_eq_some_iff.mp h
    intro a ha
    rcases List.mem_cons.mp ha with rfl | ha
    · exact tr_noStar hx
    · exact trL_noStar hxs a ha
theorem tr_plainIx {d : Nat} {e : Expr} {i : IE} (h : trE T d e = some i) : PlainIx e := by
  cases e <;> first | exact fun _ _ => rfl | (cases d <;> cases h)
theorem tr_noSet {d : Nat} {e : Expr} {env : PySem.Env} {i : IE} (h : trE T d e = some i) : ∀ x, foldedSetIterable e env x = pure x := by
  cases e <;> first | exact fun _ => rfl | (cases d <;> cases h)
theorem trI_noSet {d : Nat} {e : Expr} {env : PySem.Env} {i : II} (h : trI T d e = some i) : ∀ x, foldedSetIterable e env x = pure x := by
  cases e <;> first | exact fun _ => rfl | (cases d with | zero => cases h | succ d => cases d <;> cases h)
theorem notCall_base {o : Expr} {m : Str} {env : PySem.Env} (h : notCall o = true) : attributeBase o m env (eval o env) = eval o env := by
  cases o <;> first | rfl | cases h
def biName : BI → Str
  | .len => "len" | .abs => "abs" | .int => "int" | .all => "all" | .tuple => "tuple" | .list => "list" | .dict => "dict" | .sum => "sum" | .sorted => "sorted" | .repr => "repr"
theorem trBI_name {x : Str} {b : BI} (h : trBI x = some b) : x = biName b := by
  unfold trBI at h
  repeat' split at h
  all_goals first | (cases h; assumption) | cases h
def tyStr : Ty → Str
  | .int => "int" | .bool => "bool" | .tuple => "tuple" | .list => "list" | .str => "str" | .dict => "dict"
theorem trTy_name {x : Str} {b : Ty} (h : trTy x = some b) : x = tyStr b := by
  unfold trTy at h
  repeat' split at h
  all_goals first | (cases h; assumption) | cases h
theorem boot_ty (t : Ty) : bootBuiltins (tyStr t) = some (.type (tyName t)) := by cases t <;> decide +kernel
theorem backTo_all {env : PySem.Env} {pos : Pos} : ∀ {es : List Expr}, (∀ e ∈ es, noStar e = true) → (backTo pos (starEach es env)).all (fun x => !x.1) = true
  | [], _ => rfl
  | e :: es, h => by
    rw [starEach_cons (h e List.mem_cons_self)]
    show (!false && (backTo pos (starEach es env)).all fun x => !x.1) = true
    rw [backTo_all fun e he => h e (List.mem_cons_of_mem _ he)]
    rfl
/-- one argument, two -/
theorem pa_one {e : Expr} {te : TE} (h : PE X e te) (n : noStar e = true) : PA X [e] (fun σ H Q => te σ H fun x H1 => Q [x] H1) := (pa_cons h pa_nil (starEach_cons n))
theorem pa_two {e e' : Expr} {te te' : TE} (h : PE X e te) (h' : PE X e' te') (n : noStar e = true) (n' : noStar e' = true) : PA X [e, e'] (fun σ H Q => te σ H fun x H1 => te' σ H1 fun y H2 => Q [x, y] H2) :=
  pa_cons h (pa_cons h' pa_nil (starEach_cons n')) (starEach_cons n)
/-- the same, no error wanted -/
abbrev Wx.off (Y : Wx) : Wx := { Y with E := fun _ _ _ => False }
abbrev lcTurn (G : List Val) (LT : Takers) (q : Ctx) (e : Env) (own : List Nat) (tg : Tg) (c : IO) (elt : IE) : Val → Store → R (Option Val) := fun v S => match setT tg v (wipeE e own) with
  | none => .stuck
  | some e2 => match evC G LT c q e2 S with
    | .ok true S => toOpt (evE G LT elt q e2 S)
    | .ok false S => .ok none S
    | .err c S => .err c S
    | .stuck => .stuck
def lcFin (r : R (List Val)) : R Val := match r with
  | .ok acc S2 => alloc (.lst acc) S2
  | .err _ _ => .stuck
  | .stuck => .stuck
/-- the comprehension's loop -/
theorem lc_sim {elt : IE} {tg : Tg} {c : IO} {own : List Nat} {μ1 : List Addr} {H1 : Hp} {S1 : Store} {e : Env} {σ : L2.St} {src : Src} {J : It} {Q : VK} {D0 : Addr}
    (he : EnvR X.K μ1 H1 e σ) (hs : StX X Y.T μ1 H1 S1) (hsrc : SrcR X.K μ1 H1 src J) (hD : H1 D0 = none) (ht : tgOk src tg = true) (hown : tgIn own tg = true)
    (h : Po X Y (rV X.K) μ1 H1 (lcFin (lcLoop src (lcTurn D.G LT q e own tg c elt) (src.len S1 + 1) 0 [] S1)) Q) :
    ∃ W : Nat → Nat → Hp → Prop, (∃ m, W 0 m (upd H1 D0 (.lst []))) ∧ ∀ i m H, W i m H →
      (J.stop i H ∧ Q (.ref D0) H) ∨ (J.go i H ∧ ∃ Nx : Hp → Prop, (∀ H', Nx H' → ∃ m', m' < m ∧ W (i + 1) m' H') ∧ ∀ x H', J.yld i H x H' → rdG X Y tg x (L2.wipe σ own) H' fun σ2 H2 => L2.wipe σ2 own = L2.wipe σ own ∧ rdC X Y.off q D.G LT c σ2 H2 fun b H3 =>
        if b = true then rdE X Y.off q D.G LT elt σ2 H3 fun y H4 => ∃ acc, H4 D0 = some (.lst acc) ∧ acc.length < sizeLine ∧ Nx (upd H4 D0 (.lst (acc ++ [y]))) else Nx H3) := by
  have nD : D0 ∉ μ1 := fun hm => by
    obtain ⟨u, hu⟩ := hs.tr hm
    rw [hD] at hu
    cases hu
  refine ⟨fun i m H => ∃ μ S acc xs, Ext X.K μ1 H1 μ H ∧ StX X Y.T μ H S ∧ D0 ∉ μ ∧ H D0 = some (.lst xs) ∧ VRs X.K μ H acc xs ∧ Po X Y (rV X.K) μ1 H1 (lcFin (lcLoop src (lcTurn D.G LT q e own tg c elt) m i acc S)) Q, ⟨src.len S1 + 1, μ1, S1, [], [], .new hD, hs.new hD, nD, upd_same, .nil, h⟩, ?_⟩
  rintro i m H ⟨μ, S, acc, xs, x1, hs2, nm, hx, rv, hp⟩
  have he2 := he.ext x1
  have hsrc2 := hsrc.ext x1
  obtain ⟨g1, g2⟩ := src_at (X := X) (Y := Y) (pins := []) (i := i) hs2 hsrc2
  cases m with
  | zero => exact hp.elim
  | succ m =>
    unfold lcLoop at hp
    cases ea : src.at S i with
    | none =>
      rw [ea] at hp
      exact hp.elim
    | some o =>
      rw [ea] at hp
      cases o with
      | none =>
        refine .inl ⟨g1 ea, ?_⟩
        have hp : Po X Y (rV X.K) μ1 H1 (alloc (.lst acc) S) Q := hp
        refine hp (μ ++ [D0]) H (.ref D0) ⟨fun n a z => ?_, x1.tp, x1.lp, x1.fr, fun a z => ?_⟩ (hs2.adopt nm hx rv) (.obj ?_)
        · have z := x1.ob n a z
          rw [List.getElem?_append_left (List.getElem?_eq_some_iff.mp z).1]
          exact z
        · rcases List.mem_append.mp z with z | z
          · exact x1.nw a z
          · rw [List.mem_singleton.mp z]
            exact .inr fun o w => by rw [hD] at w; cases w
        · rw [← hs2.len, List.getElem?_append_right (Nat.le_refl _), Nat.sub_self]
          rfl
      | some v =>
        obtain ⟨ggo, gy⟩ := g2 v tg ea ht
        dsimp only at hp
        refine .inr ⟨ggo, fun H' => ∃ μ S acc xs, Ext X.K μ1 H1 μ H' ∧ StX X Y.T μ H' S ∧ D0 ∉ μ ∧ H' D0 = some (.lst xs) ∧ VRs X.K μ H' acc xs ∧ Po X Y (rV X.K) μ1 H1 (lcFin (lcLoop src (lcTurn D.G LT q e own tg c elt) m (i + 1) acc S)) Q, fun H' z => ⟨m, Nat.lt_succ_self m, z⟩, fun x H' yl => ?_⟩
        obtain ⟨x2, hs3, hkeep, vg⟩ := gy x H' yl
        have hx3 : H' D0 = some (.lst xs) := hkeep _ _ hx
        have st : ∀ {μ' : List Addr} {H2 : Hp}, Ext X.K μ H' μ' H2 → D0 ∉ μ' ∧ H2 D0 = some (.lst xs) := fun {μ' H2} z => ⟨fun hm => (z.nw D0 hm).elim nm (fun w => by obtain ⟨ps, e⟩ := w _ hx3; cases e), z.stay hx3 (fun ps w => by cases w) nm⟩
        cases es : setT tg v (wipeE e own) with
        | none =>
          simp only [lcTurn, es] at hp
          exact hp.elim
        | some e2 =>
          simp only [lcTurn, es] at hp
          refine ⟨μ, wipeE e own, v, e2, (he2.ext x2).wipe own, vg, es, fun σ2 he3 hw => ⟨?_, ?_⟩⟩
          · rw [hw own hown]
            have idem : ∀ (l : List Nat) (σ : L2.St), (∀ i ∈ l, ∀ z : Nat, (σ.set i none)[z]? = σ[z]?) → L2.wipe σ l = σ := by
              intro l
              induction l with
              | nil => intro σ _; rfl
              | cons a l ih =>
                intro σ hσ
                unfold L2.wipe
                rw [ih σ fun i hi => hσ i (List.mem_cons_of_mem _ hi)]
                exact List.ext_getElem? (hσ a List.mem_cons_self)
            refine idem own _ fun a ha z => ?_
            by_cases hz : a = z
            · subst hz
              by_cases hl : a < (L2.wipe σ own).length
              · rw [List.getElem?_set_self hl]
                cases q : (L2.wipe σ own)[a]? with
                | none => rw [List.getElem?_eq_none_iff] at q; omega
                | some o =>
                  cases o with
                  | none => rfl
                  | some x => exact absurd ha (L2.wipe_some q).2
              · rw [List.getElem?_eq_none (by simpa using hl), List.getElem?_eq_none (by simpa using hl)]
            · rw [List.getElem?_set_ne hz]
          · cases ec : evC D.G LT c q e2 S with
            | err c S => rw [ec] at hp; exact hp.elim
            | stuck => rw [ec] at hp; exact hp.elim
            | ok b S3 =>
              rw [ec] at hp
              refine ⟨μ, e2, S, he3, hs3, ?_⟩
              rw [ec]
              intro μ3 H3 b' x3 hs4 eb
              subst eb
              obtain ⟨n3, hx4⟩ := st x3
              cases b with
              | false =>
                rw [if_neg Bool.false_ne_true]
                exact ⟨μ3, S3, acc, xs, (x1.trans x2).trans x3, hs4, n3, hx4, (rv.ext x2).ext x3, hp⟩
              | true =>
                rw [if_pos rfl]
                dsimp only at hp
                cases ee : evE D.G LT elt q e2 S3 with
                | err c S => rw [ee] at hp; exact hp.elim
                | stuck => rw [ee] at hp; exact hp.elim
                | ok y S4 =>
                  rw [ee] at hp
                  refine ⟨μ3, e2, S3, he3.ext x3, hs4, ?_⟩
                  rw [ee]
                  intro μ4 H4 y' x4 hs5 ry
                  obtain ⟨n4, hx5⟩ := st (x3.trans x4)
                  have rv4 := ((rv.ext x2).ext x3).ext x4
                  have hp : Po X Y (rV X.K) μ1 H1 (lcFin (if acc.length < cap then lcLoop src (lcTurn D.G LT q e own tg c elt) m (i + 1) (acc ++ [y]) S4 else .stuck)) Q := hp
                  split at hp
                  · rename_i hl
                    refine ⟨xs, hx5, by rw [← rv4.length]; exact Nat.lt_of_lt_of_le hl (by decide), μ4, S4, acc ++ [y], xs ++ [y'], Ext.aside (((x1.trans x2).trans x3).trans x4) hD n4 hx5, hs5.aside n4 hx5, n4, upd_same, (rv4.append (.cons ry .nil)).extV (extV_aside hx5), hp⟩
                  · exact hp.elim
end
end Ev
end

section
set_option Elab.async false
set_option linter.all false
set_option autoImplicit false
set_option maxRecDepth 100000
set_option maxHeartbeats 8000000
/-! EvSimG: the theorem on expressions. -/
namespace Ev
open PySem PySem.Spec PyProof.Rows L2 RZ
structure SimAt (D : Dt) (LT : Takers) (T : TC) (q : Ctx) (X : Cx) (Y : Wx) (d : Nat) : Prop where
  e : ∀ (e : Expr) (i : IE), trE T d e = some i → PE X e (rdE X Y q D.G LT i) ∧ PT X e (rdT X Y q D.G LT i)
  l : ∀ (es : List Expr) (is : IEs), trL T d es = some is → PA X es (rdL X Y q D.G LT is)
  o : ∀ (e : Option Expr) (i : IO), trO T d e = some i → PO X e (rdO X Y q D.G LT i)
  a : ∀ (es : List Expr) (i : IE) (pos : Pos), trAnd T d es = some i → PE X (.BoolOp .And es pos) (rdE X Y q D.G LT i) ∧ PW X (.BoolOp .And es pos) (rdT X Y q D.G LT i)
  r : ∀ (es : List Expr) (i : IE) (pos : Pos), trOr T d es = some i → PE X (.BoolOp .Or es pos) (rdE X Y q D.G LT i) ∧ PW X (.BoolOp .Or es pos) (rdT X Y q D.G LT i)
  i : ∀ (e : Expr) (i : II) (tg : Expr), trI T d e = some i → ((∃ a b, i = .zip a b) → ∃ es n p, tg = .Tuple es n p) → PI X tg e (rdI X Y q D.G LT i)
section
variable {D : Dt} {LT : Takers} {q : Ctx} {X : Cx} {Y : Wx} {k : Nat} {T : TC}
/-- built-in functions of one argument -/
theorem bi_case (ok : XOk D LT k T q X Y) (b : BI) {p pos : Pos} {a : Expr} {i : IE} (hg : Gl X (biName b)) (ha : PE X a (rdE X Y q D.G LT i)) (n : noStar a = true) : PE X (.Call (.Name (biName b) p) [a] [] pos) (rdE X Y q D.G LT (.bi b i)) := by
  have hu := ok.un
  have hm : X.mg (biName b) = none := ok.md.blt _ (by cases b <;> decide +kernel)
  have fin : ∀ σ H Q, rdE X Y q D.G LT (.bi b i) σ H Q → tCB (rBi X Y.T q.gd b) (fun σ H Q => rdE X Y q D.G LT i σ H fun x H1 => Q [x] H1) σ H Q := fun σ H Q ⟨μ, e, S, he, hs, h⟩ =>
    rd_bind (k := fun x S => biop q.gd b x S) he hs h fun x H1 μ1 v S1 _ _ hs1 rv h1 => ⟨μ1, S1, v, x, rfl, hs1, rv, aft_of h1 ne_bi⟩
  cases b with
  | len => exact (pe_callB (bi_len (gd := q.gd)) hg hm (by decide +kernel) (pa_one ha n) (by decide) (by decide) (starEach_cons n) rfl).imp fin
  | abs => exact (pe_callB (bi_abs (gd := q.gd)) hg hm (by decide +kernel) (pa_one ha n) (by decide) (by decide) (starEach_cons n) rfl).imp fin
  | int => exact (pe_callTy (bi_int (gd := q.gd)) hg hm (by decide +kernel) (pa_one ha n) (by decide) (by decide) (starEach_cons n) rfl).imp fin
  | all => exact (pe_callB (bi_all (gd := q.gd) ok.calm) hg hm (by decide +kernel) (pa_one ha n) (by decide) (by decide) (starEach_cons n) rfl).imp fin
  | tuple => exact (pe_callTy (bi_tuple (gd := q.gd)) hg hm (by decide +kernel) (pa_one ha n) (by decide) (by decide) (starEach_cons n) rfl).imp fin
  | list => exact (pe_callTy (bi_list (gd := q.gd)) hg hm (by decide +kernel) (pa_one ha n) (by decide) (by decide) (starEach_cons n) rfl).imp fin
  | dict => exact (pe_callTy (bi_dict (gd := q.gd) hu ok.calm) hg hm (by decide +kernel) (pa_one ha n) (by decide) (by decide) (starEach_cons n) rfl).imp fin
  | sum => exact (pe_callB (bi_sum (gd := q.gd) ok.calm) hg hm (by decide +kernel) (pa_one ha n) (by decide) (by decide) (starEach_cons n) rfl).imp fin
  | sorted => exact (pe_callB (bi_sorted (gd := q.gd) hu ok.calm) hg hm (by decide +kernel) (pa_one ha n) (by decide) (by decide) (starEach_cons n) rfl).imp fin
  | repr => exact (pe_callB (bi_repr (gd := q.gd) hu ok.gd) hg hm (by decide +kernel) (pa_one ha n) (by decide) (by decide) (starEach_cons n) rfl).imp fin
/-- isinstance -/
theorem isi_case (ok : XOk D LT k T q X Y) (t : Ty) {p p2 pos : Pos} {a : Expr} {i : IE} (hg : Gl X "isinstance") (hg2 : Gl X (tyStr t)) (ha : PE X a (rdE X Y q D.G LT i)) (n : noStar a = true) : PE X (.Call (.Name "isinstance" p) [a, .Name (tyStr t) p2] [] pos) (rdE X Y q D.G LT (.isi i t)) := by
  have hm : X.mg "isinstance" = none := ok.md.blt _ (by decide +kernel)
  have hm2 : X.mg (tyStr t) = none := ok.md.blt _ (by cases t <;> decide +kernel)
  have ht : PE X (.Name (tyStr t) p2) (tC (.ty (tyName t))) := pe_bltn hg2 hm2 (boot_ty t) rfl (by cases t <;> decide) (by cases t <;> decide)
  refine (pe_callB (bi_isi (T := Y.T) t) hg hm (by decide +kernel) (pa_two ha ht n rfl) (by decide) (by decide) (starEach_cons n) rfl).imp fun σ H Q ⟨μ, e, S, he, hs, h⟩ => ?_
  refine rd_bind (k := fun x S => isiop t x S) he hs h fun x H1 μ1 v S1 _ _ hs1 rv h1 => ?_
  unfold isiop at h1
  split at h1
  · rename_i b hb
    exact ⟨μ1, S1, v, x, b, rfl, hs1, rv, hb, h1 _ _ _ .refl hs1 (.bl b)⟩
  · exact h1.elim
theorem app_case {o a : Expr} {apos cpos : Pos} {i j : IE} (hl : (apos.endLine == cpos.line) = true) (hc : notCall o = true) (ho : PE X o (rdE X Y q D.G LT i)) (ha : PE X a (rdE X Y q D.G LT j)) (n : noStar a = true) :
    PE X (.Call (.Attribute o "append" apos) [a] [] cpos) (rdE X Y q D.G LT (.app i j)) := by
  have hall := backTo_all (env := X.env) (pos := cpos) (es := [a]) (by simpa using n)
  refine (pe_mG (ty := tyLst X Y.T) ty_lst PySem.F.plainAttrs_list PySem.F.slot_list_append PySem.F.type_list_append (mt_app (T := Y.T)) ho (pa_one ha n) (notCall_base hc) (by rw [hall]; rfl) hl (starEach_cons n) rfl).imp fun σ H Q ⟨μ, e, S, he, hs, h⟩ => ?_
  refine rd_bind (k := fun x S => if isLst S x = true then (evE D.G LT j q e S).bind fun y S => appop x y S else .stuck) he hs h fun x H1 μ1 v S1 _ he1 hs1 rv h1 => ?_
  split at h1
  · rename_i hv
    refine ⟨?_, rd_bind (k := fun y S => appop v y S) he1 hs1 h1 fun y H2 μ2 u S2 x2 _ hs2 ru h2 => ⟨μ2, S2, v, u, y, rfl, hs2, rv.ext x2, ru, aft_of h2 ne_app⟩⟩
    unfold isLst at hv
    split at hv
    · split at hv
      · rename_i hn
        cases rv with
        | obj hm =>
          obtain ⟨xs, e1, _⟩ := cel_at hs1 hn hm
          exact ⟨_, xs, rfl, e1⟩
      · cases hv
    · cases hv
  · exact h1.elim
theorem get2_case (ok : XOk D LT k T q X Y) {o a b : Expr} {apos cpos : Pos} {i j l : IE} (hl : (apos.endLine == cpos.line) = true) (hc : notCall o = true) (ho : PE X o (rdE X Y q D.G LT i)) (ha : PE X a (rdE X Y q D.G LT j)) (hb : PE X b (rdE X Y q D.G LT l)) (n : noStar a = true) (n' : noStar b = true) :
    PE X (.Call (.Attribute o "get" apos) [a, b] [] cpos) (rdE X Y q D.G LT (.get2 i j l)) := by
  have hall := backTo_all (env := X.env) (pos := cpos) (es := [a, b]) (by simpa using ⟨n, n'⟩)
  refine (pe_mG (ty := tyDic X) ty_dic PySem.F.plainAttrs_dict PySem.F.slot_dict_get PySem.F.type_dict_get (mt_get2 (T := Y.T) ok.un) ho (pa_two ha hb n n') (notCall_base hc) (by rw [hall]; rfl) hl (starEach_cons n) (starEach_any (by simpa using n'))).imp fun σ H Q ⟨μ, e, S, he, hs, h⟩ => ?_
  refine rd_bind (k := fun u S => if isDic S u = true then (evE D.G LT j q e S).bind fun v S => (evE D.G LT l q e S).bind fun w S => get2op u v w S else .stuck) he hs h fun x H1 μ1 v S1 _ he1 hs1 rv h1 => ?_
  split at h1
  · rename_i hv
    refine ⟨?_, rd_bind (k := fun y S => (evE D.G LT l q e S).bind fun w S => get2op v y w S) he1 hs1 h1 fun y H2 μ2 u S2 x2 he2 hs2 ru h2 => rd_bind (k := fun w S => get2op v u w S) he2 hs2 h2 fun z H3 μ3 w S3 x3 _ hs3 rw h3 =>
      ⟨μ3, S3, v, u, w, y, z, rfl, hs3, (rv.ext x2).ext x3, ru.ext x3, rw, aft_of h3 ne_get2⟩⟩
    unfold isDic at hv
    split at hv
    · split at hv
      · rename_i hn
        cases rv with
        | obj hm =>
          obtain ⟨ob, xs, e1, _, _, e4, _⟩ := cel_at hs1 hn hm
          exact ⟨_, ob, xs, rfl, e1, e4⟩
      · cases hv
    · cases hv
  · exact h1.elim
theorem pt_ife {c a b : Expr} {pos : Pos} {t ta tb : TT} (hc : PT X c t) (ha : PT X a ta) (hb : PT X b tb) : PT X (.IfExp c a b pos) (fun σ H Q => t σ H fun d H1 => if d = true then ta σ H1 Q else tb σ H1 Q) := by
  refine ⟨fun pins s σ H Q I h => ?_⟩
  refine isTrue_IfExp (thn (hc.run pins s σ H _ I h) fun d s1 ⟨H1, I1, q1⟩ => ?_)
  cases d with
  | true => exact ha.run pins s1 σ H1 Q I1 q1
  | false => exact hb.run pins s1 σ H1 Q I1 q1
theorem plain_args {args : Arguments} (h : args.posonlyargs.length = 0 ∧ args.args.length = 0 ∧ args.vararg.isNone = true ∧ args.kwonlyargs.length = 0 ∧ args.kw_defaults.length = 0 ∧ args.kwarg.isNone = true ∧ args.defaults.length = 0) :
    args.posonlyargs = [] ∧ args.args = [] ∧ args.vararg = none ∧ args.kwonlyargs = [] ∧ args.kw_defaults = [] ∧ args.kwarg = none ∧ args.defaults = [] := by
  obtain ⟨h1, h2, h3, h4, h5, h6, h7⟩ := h
  exact ⟨List.length_eq_zero_iff.mp h1, List.length_eq_zero_iff.mp h2, Option.isNone_iff_eq_none.mp h3, List.length_eq_zero_iff.mp h4, List.length_eq_zero_iff.mp h5, Option.isNone_iff_eq_none.mp h6, List.length_eq_zero_iff.mp h7⟩
theorem tup_tg {d : Nat} {tg : Expr} {ts : Tgs} (ht : trT T d tg = some (.tup ts)) : ∃ es n p, tg = .Tuple es n p := by
  cases d with
  | zero => unfold trT at ht; cases ht
  | succ d =>
    unfold trT at ht
    split at ht
    · split at ht
      · obtain ⟨_, _, z⟩ := Option.map_eq_some_iff.mp ht
        cases z
      · cases ht
    · exact ⟨_, _, _, rfl⟩
    · cases ht
/-- a comprehension, its parts -/
theorem lc_parts (d : Nat) (IH : ∀ {k : Nat} {T : TC} {q : Ctx} {X : Cx} {Y : Wx}, XOk D LT k T q X Y → SimAt D LT T q X Y d) (ok : XOk D LT k T q X Y) {elt tg iter : Expr} {ifs : List Expr} {scope : Scope} {pos : Pos} {i : IE}
    (h : trE T (d + 1) (.ListComp elt [⟨tg, iter, ifs, 0⟩] scope pos) = some i) :
    ∃ (wi : TI) (g : TG) (tt : TT) (te : TE), PI X tg iter wi ∧ BlkOk X.N X.env.scope scope (ownOf T.N scope) ∧
      (∀ (s : Shared) (H : Hp) (C : Addr) (cl : List (Str × Addr)) (fp : List Addr), PG (X.blk s H scope (compEnvC scope cl C X.env) fp) tg g) ∧
      (∀ (s : Shared) (H : Hp) (C : Addr) (cl : List (Str × Addr)) (fp : List Addr), PTs (X.blk s H scope (compEnvC scope cl C X.env) fp) ifs tt) ∧
      (∀ (s : Shared) (H : Hp) (C : Addr) (cl : List (Str × Addr)) (fp : List Addr), PE (X.blk s H scope (compEnvC scope cl C X.env) fp) elt te) ∧
      (∀ x, foldedSetIterable iter X.env x = pure x) ∧ ∀ σ H Q, rdE X Y q D.G LT i σ H Q → tLc wi g tt te ((ownOf T.N scope).map (·.2)) σ H Q := by
  have ih := IH ok
  have h : (if blkC T.N T.sc scope (ownOf T.N scope) = true then
        (trE { T with sc := scope, tks := [] } d elt).bind fun x => (trT { T with sc := scope, tks := [] } d tg).bind fun t => (trI T d iter).bind fun it =>
        if tgIn ((ownOf T.N scope).map (·.2)) t = false ∨ zipTg it t = false then none else match ifs with
        | [] => some (IE.lc ((ownOf T.N scope).map (·.2)) x t it IO.none)
        | [c] => (trE { T with sc := scope, tks := [] } d c).map fun y => IE.lc ((ownOf T.N scope).map (·.2)) x t it (IO.some y)
        | _ => none
      else none) = some i := h
  split at h
  · rename_i hb
    obtain ⟨x, hx, h⟩ := Option.bind_eq_some_iff.mp h
    obtain ⟨t, ht, h⟩ := Option.bind_eq_some_iff.mp h
    obtain ⟨it, hit, h⟩ := Option.bind_eq_some_iff.mp h
    split at h
    · cases h
    · rename_i hh
      have hh := not_or.mp hh
      have hown : tgIn ((ownOf T.N scope).map (·.2)) t = true := by simpa using hh.1
      have hzt : zipTg it t = true := by simpa using hh.2
      have hzip : (∃ a b, it = .zip a b) → ∃ es n p, tg = .Tuple es n p := fun ⟨a, b, e⟩ => by
        subst e
        cases t with
        | name n => cases hzt
        | tup ts => exact tup_tg ht
      have hpi := ih.i iter it tg hit hzip
      have hg : ∀ (s : Shared) (H : Hp) (C : Addr) (cl : List (Str × Addr)) (fp : List Addr), PG (X.blk s H scope (compEnvC scope cl C X.env) fp) tg (rdG X Y t) := fun s H C cl fp =>
        let okb := ok.block hb s H C cl fp
        (pg_all (X := X.blk s H scope (compEnvC scope cl C X.env) fp) (Y := Y) okb.N okb.nd okb.calm okb.own d).1 tg t ht
      have main : ∀ (c : IO), i = .lc ((ownOf T.N scope).map (·.2)) x t it c → (∀ (s : Shared) (H : Hp) (C : Addr) (cl : List (Str × Addr)) (fp : List Addr), PTs (X.blk s H scope (compEnvC scope cl C X.env) fp) ifs (rdC X Y.off q D.G LT c)) →
          ∃ (wi : TI) (g : TG) (tt : TT) (te : TE), PI X tg iter wi ∧ BlkOk X.N X.env.scope scope (ownOf T.N scope) ∧
      (∀ (s : Shared) (H : Hp) (C : Addr) (cl : List (Str × Addr)) (fp : List Addr), PG (X.blk s H scope (compEnvC scope cl C X.env) fp) tg g) ∧
      (∀ (s : Shared) (H : Hp) (C : Addr) (cl : List (Str × Addr)) (fp : List Addr), PTs (X.blk s H scope (compEnvC scope cl C X.env) fp) ifs tt) ∧
      (∀ (s : Shared) (H : Hp) (C : Addr) (cl : List (Str × Addr)) (fp : List Addr), PE (X.blk s H scope (compEnvC scope cl C X.env) fp) elt te) ∧
      (∀ x, foldedSetIterable iter X.env x = pure x) ∧ ∀ σ H Q, rdE X Y q D.G LT i σ H Q → tLc wi g tt te ((ownOf T.N scope).map (·.2)) σ H Q := fun c ei hc => by
        subst ei
        refine ⟨_, _, rdC X Y.off q D.G LT c, rdE X Y.off q D.G LT x, hpi, ok.blkOk hb, hg, hc, fun s H C cl fp => ((IH (ok.block hb s H C cl fp)).e elt x hx).1, trI_noSet hit, fun σ H Q ⟨μ, e, S, he, hs, h⟩ => ?_⟩
        have h : Po X Y (rV X.K) μ H (match evI D.G LT it q e S with
          | .ok src S1 => if tgOk src t = false then .stuck else lcFin (lcLoop src (lcTurn D.G LT q e ((ownOf T.N scope).map (·.2)) t c x) (src.len S1 + 1) 0 [] S1)
          | .err _ _ => .stuck
          | .stuck => .stuck) Q := h
        cases ei : evI D.G LT it q e S with
        | err c S => rw [ei] at h; exact h.elim
        | stuck => rw [ei] at h; exact h.elim
        | ok src S1 =>
          rw [ei] at h
          dsimp only at h
          split at h
          · exact h.elim
          · rename_i htg
            refine ⟨μ, e, S, he, hs, ?_⟩
            rw [ei]
            intro μ1 H1 J x1 hs1 rs D0 hD
            exact lc_sim (he.ext x1) hs1 rs hD (by simpa using htg) hown (Post.ext h x1)
      rcases ifs with _ | ⟨c, _ | ⟨c2, cs⟩⟩
      · cases h
        exact main .none rfl fun s H C cl fp => ⟨fun pins s0 σ H Q I hw => pts_nil.run pins s0 σ H Q I (by
          obtain ⟨μ, e, S, he, hs, h⟩ := hw
          exact h _ _ true .refl hs rfl)⟩
      · obtain ⟨y, hy, rfl⟩ := Option.map_eq_some_iff.mp h
        exact main (.some y) rfl fun s H C cl fp => pts_one ((IH (ok.block hb s H C cl fp)).e c y hy).2
      · cases h
  · cases h
theorem sim_step (d : Nat) (IH : ∀ {k : Nat} {T : TC} {q : Ctx} {X : Cx} {Y : Wx}, XOk D LT k T q X Y → SimAt D LT T q X Y d) (ok : XOk D LT k T q X Y) :
    ∀ (e : Expr) (i : IE), trE T (d + 1) e = some i → PE X e (rdE X Y q D.G LT i) ∧ PT X e (rdT X Y q D.G LT i) := by
  have ih := IH ok
  intro e i h
  unfold trE at h
  split at h
  · cases h
    exact both (pe_int.imp fun σ H Q ⟨μ, e, S, he, hs, h⟩ => h _ _ _ .refl hs (.int _))
  · cases h
    exact both (pe_str.imp fun σ H Q ⟨μ, e, S, he, hs, h⟩ => h _ _ _ .refl hs (.str _))
  · cases h
    exact both (pe_bl.imp fun σ H Q ⟨μ, e, S, he, hs, h⟩ => h _ _ _ .refl hs (.bl _))
  · cases h
    exact both (pe_non.imp fun σ H Q ⟨μ, e, S, he, hs, h⟩ => h _ _ _ .refl hs .non)
  · -- a name
    rename_i x pos
    split at h
    · rename_i hl
      obtain ⟨n, hn, rfl⟩ := Option.map_eq_some_iff.mp h
      obtain ⟨d1, d2, _⟩ := plain_dbg (loc_plain hl)
      refine both ((pe_var (by rw [ok.N]; exact ixOf_get hn) (ok.vis x hl) d1 d2).imp fun σ H Q ⟨μ, e, S, he, hs, h⟩ => ?_)
      have h : Po X Y (rV X.K) μ H (match e[n]? with | some (some v) => R.ok v S | _ => R.stuck) Q := h
      split at h
      · rename_i v hv
        obtain ⟨y, h1, h2⟩ := he.2 n v hv
        exact ⟨y, h1, h _ _ _ .refl hs h2⟩
      · exact h.elim
    · split at h
      · rename_i hgl
        obtain ⟨n, hn, rfl⟩ := Option.map_eq_some_iff.mp h
        obtain ⟨d1, _, _⟩ := plain_dbg (glo_plain hgl)
        obtain ⟨u, v, w, m1, m2, m3, m4⟩ := ok.md.glb n x (by rw [← ok.glb]; exact ixOf_get hn)
        refine both ((pe_glob (ok.gl x hgl) m1 m2 d1).imp fun σ H Q ⟨μ, e, S, he, hs, h⟩ => ?_)
        have h : Po X Y (rV X.K) μ H (match D.G[n]? with | some v => R.ok v S | none => R.stuck) Q := h
        rw [m3] at h
        exact h _ _ _ .refl hs (m4 _ _)
      · cases h
  · -- a tuple
    rename_i es n pos
    obtain ⟨is, hi, rfl⟩ := Option.map_eq_some_iff.mp h
    refine both ((pe_tupF (ih.l es is hi)).imp fun σ H Q ⟨μ, e, S, he, hs, h⟩ => ?_)
    refine rd_bind (k := fun vs S => if vs.length ≤ cap then R.ok (Val.tup vs) S else R.stuck) he hs h fun xs H1 μ1 vs S1 _ _ hs1 rv h1 => ?_
    split at h1
    · rename_i hz
      exact ⟨by rw [← rv.length]; exact cap_line hz, fun p o dn hp => aft_tup (P := X.prog) (w := X.w) (T := Y.T) h1 hs1 rv hp dn⟩
    · exact h1.elim
  · -- a list
    rename_i es pos
    obtain ⟨is, hi, rfl⟩ := Option.map_eq_some_iff.mp h
    refine both ((pe_lst (ih.l es is hi)).imp fun σ H Q ⟨μ, e, S, he, hs, h⟩ => ?_)
    refine rd_bind (k := fun vs S => if vs.length ≤ cap then alloc (.lst vs) S else .stuck) he hs h fun xs H1 μ1 vs S1 _ _ hs1 rv h1 => ?_
    split at h1
    · rename_i hz
      exact ⟨by rw [← rv.length]; exact cap_line hz, fun p hp => aft_lst (P := X.prog) (w := X.w) (T := Y.T) h1 hs1 rv hp⟩
    · exact h1.elim
  · -- {}
    cases h
    refine both (pe_dnew.imp fun σ H Q ⟨μ, e, S, he, hs, h⟩ p o hd hm hp => ?_)
    refine h (μ ++ [p]) _ _ (.push hp) (hs.push hp ⟨o, [], upd_same, hm, Nat.zero_le _, hd, .nil⟩) (.obj ?_)
    rw [← hs.len, List.getElem?_append_right (Nat.le_refl _), Nat.sub_self]
    rfl
  · -- a op b
    rename_i a op b pos
    obtain ⟨o, ho, h⟩ := Option.bind_eq_some_iff.mp h
    obtain ⟨x, hx, h⟩ := Option.bind_eq_some_iff.mp h
    obtain ⟨y, hy, rfl⟩ := Option.map_eq_some_iff.mp h
    refine both ((pe_op (op_bin (T := Y.T) ho) (ih.e a x hx).1 (ih.e b y hy).1).imp fun σ H Q ⟨μ, e, S, he, hs, h⟩ => ?_)
    exact rd_bind (k := fun v S => (evE D.G LT y q e S).bind fun u S => binop o v u S) he hs h fun v1 H1 μ1 v S1 _ he1 hs1 rv h1 => rd_bind (k := fun u S => binop o v u S) he1 hs1 h1 fun v2 H2 μ2 u S2 x2 _ hs2 ru h2 =>
      ⟨μ2, S2, v, u, hs2, rv.ext x2, ru, aft_of h2 ne_bin⟩
  · -- -a
    rename_i a pos
    obtain ⟨x, hx, rfl⟩ := Option.map_eq_some_iff.mp h
    refine both ((pe_un un_neg (ih.e a x hx).1).imp fun σ H Q ⟨μ, e, S, he, hs, h⟩ => ?_)
    have h2 : rd X Y rEq (fun e S => asI (evE D.G LT x q e S)) σ H (fun i H1 => Q (.int (-i)) H1) := rd_bind (f := fun e S => asI (evE D.G LT x q e S)) (k := fun i S => R.ok (Val.int (-i)) S) (Rm := rV X.K) he hs h fun v1 H1 μ1 v S1 _ _ hs1 rv h1 => by
      subst rv
      exact h1 _ _ _ .refl hs1 (.int _)
    exact rdI_to h2
  · -- not a
    rename_i a pos
    obtain ⟨x, hx, rfl⟩ := Option.map_eq_some_iff.mp h
    have key : ∀ {β : Type} {Rm : List Addr → Hp → Val → β → Prop} σ H (Q : β → Hp → Prop), rd X Y Rm (fun e S => evE D.G LT (.not x) q e S) σ H Q → True := fun _ _ _ _ => True.intro
    refine ⟨(pe_not (ih.e a x hx).1).imp fun σ H Q ⟨μ, e, S, he, hs, h⟩ => ?_, (pt_not (ih.e a x hx).2).imp fun σ H Q ⟨μ, e, S, he, hs, h⟩ => ?_⟩
    · have h2 : rdT X Y q D.G LT x σ H (fun b H1 => Q (.bl (!b)) H1) := rd_bind (f := fun e S => asB (evE D.G LT x q e S)) (k := fun b S => R.ok (Val.bl (!b)) S) (Rm := rV X.K) he hs h fun v1 H1 μ1 v S1 _ _ hs1 rv h1 => by
        subst rv
        exact h1 _ _ _ .refl hs1 (.bl _)
      exact rdT_to h2
    · have h : Po X Y rEq μ H ((asB (evE D.G LT x q e S)).bind fun b S => .ok (!b) S) Q := by
        have e1 : (asB (evE D.G LT (.not x) q e S)) = (asB (evE D.G LT x q e S)).bind fun b S => .ok (!b) S := by
          show asB ((asB (evE D.G LT x q e S)).bind fun b S => R.ok (Val.bl (!b)) S) = _
          rw [asB_bind, R.assoc]
          rfl
        rw [← e1]
        exact h
      exact rd_bind (f := fun e S => asB (evE D.G LT x q e S)) (k := fun b S => .ok (!b) S) he hs h fun v1 H1 μ1 v S1 _ _ hs1 rv h1 => by
        subst rv
        exact h1 _ _ _ .refl hs1 rfl
  · -- and
    rename_i es pos
    obtain ⟨h1, h2⟩ := ih.a es i pos h
    exact ⟨h1, h2.pt⟩
  · rename_i es pos
    obtain ⟨h1, h2⟩ := ih.r es i pos h
    exact ⟨h1, h2.pt⟩
  · -- a comparison
    rename_i a op b pos
    split at h
    · cases h
    · rename_i hm
      have hm : behindInMarks op b = false := by simpa using hm
      obtain ⟨o, ho, h⟩ := Option.bind_eq_some_iff.mp h
      obtain ⟨x, hx, h⟩ := Option.bind_eq_some_iff.mp h
      obtain ⟨y, hy, rfl⟩ := Option.map_eq_some_iff.mp h
      have fin : ∀ σ H Q, rdE X Y q D.G LT (.cmp o x y) σ H Q → tOp (rCmp X Y.T o) (rdE X Y q D.G LT x) (rdE X Y q D.G LT y) σ H Q := fun σ H Q ⟨μ, e, S, he, hs, h⟩ =>
        rd_bind (k := fun v S => (evE D.G LT y q e S).bind fun u S => cmpop o v u S) he hs h fun v1 H1 μ1 v S1 _ he1 hs1 rv h1 => rd_bind (k := fun u S => cmpop o v u S) he1 hs1 h1 fun v2 H2 μ2 u S2 x2 _ hs2 ru h2 => by
          unfold cmpop at h2
          split at h2
          · rename_i c hc
            exact ⟨μ2, S2, v, u, c, hs2, rv.ext x2, ru, hc, h2 _ _ _ .refl hs2 (.bl c)⟩
          · exact h2.elim
      exact ⟨(pe_cmpR (op_cmp ok.un ho) (ih.e a x hx).1 (ih.e b y hy).1 hm).imp fin, (pt_cmpR (op_cmp ok.un ho) (ih.e a x hx).1 (ih.e b y hy).1 hm).imp fun σ H Q h => fin _ _ _ (rdT_to h)⟩
  · -- a chain
    rename_i a op op' b c pos
    split at h
    · cases h
    · rename_i hm
      have hm : lastMarks [op, op'] [b, c] = false := by
        show behindInMarks op' c = false
        simpa using hm
      obtain ⟨o, ho, h⟩ := Option.bind_eq_some_iff.mp h
      obtain ⟨o', ho', h⟩ := Option.bind_eq_some_iff.mp h
      obtain ⟨x, hx, h⟩ := Option.bind_eq_some_iff.mp h
      obtain ⟨y, hy, h⟩ := Option.bind_eq_some_iff.mp h
      obtain ⟨z, hz, rfl⟩ := Option.map_eq_some_iff.mp h
      have fin : ∀ σ H Q, rdE X Y q D.G LT (.chn o o' x y z) σ H Q → tChain (rCmp X Y.T o) (rCmp X Y.T o') (rdE X Y q D.G LT x) (rdE X Y q D.G LT y) (rdE X Y q D.G LT z) σ H Q := fun σ H Q ⟨μ, e, S, he, hs, h⟩ =>
        rd_bind (k := fun v S => (evE D.G LT y q e S).bind fun u S => truth (cmpop o v u S) fun t S => if t = true then (evE D.G LT z q e S).bind fun w S => cmpop o' u w S else .ok (.bl false) S) he hs h fun v1 H1 μ1 v S1 _ he1 hs1 rv h1 =>
          rd_bind (k := fun u S => truth (cmpop o v u S) fun t S => if t = true then (evE D.G LT z q e S).bind fun w S => cmpop o' u w S else .ok (.bl false) S) he1 hs1 h1 fun v2 H2 μ2 u S2 x2 he2 hs2 ru h2 => by
          unfold cmpop at h2
          split at h2
          · rename_i c hc
            refine ⟨μ2, S2, v, u, c, hs2, rv.ext x2, ru, hc, c, rfl, ?_⟩
            have h2 : Po X Y (rV X.K) μ2 H2 (if c = true then (evE D.G LT z q e S2).bind fun w S => cmpop o' u w S else .ok (.bl false) S2) Q := h2
            split at h2
            · rename_i ct
              rw [if_pos ct]
              refine rd_bind (k := fun w S => cmpop o' u w S) he2 hs2 h2 fun v3 H3 μ3 w S3 x3 _ hs3 rw h3 => ?_
              unfold cmpop at h3
              split at h3
              · rename_i c' hc'
                exact ⟨μ3, S3, u, w, c', hs3, ru.ext x3, rw, hc', h3 _ _ _ .refl hs3 (.bl c')⟩
              · exact h3.elim
            · rename_i ct
              rw [if_neg ct]
              exact h2 _ _ _ .refl hs2 (.bl _)
          · exact h2.elim
      exact ⟨(pe_chain (op_cmp ok.un ho) (op_cmp ok.un ho') (ih.e a x hx).1 (ih.e b y hy).1 (ih.e c z hz).1 hm).imp fin, (pt_chain (op_cmp ok.un ho) (op_cmp ok.un ho') (ih.e a x hx).1 (ih.e b y hy).1 (ih.e c z hz).1 hm).imp fun σ H Q h => fin _ _ _ (rdT_to h)⟩
  · -- a if c else b
    rename_i c a b pos
    obtain ⟨x, hx, h⟩ := Option.bind_eq_some_iff.mp h
    obtain ⟨y, hy, h⟩ := Option.bind_eq_some_iff.mp h
    obtain ⟨z, hz, rfl⟩ := Option.map_eq_some_iff.mp h
    refine ⟨(pe_ifExp (ih.e c x hx).2 (ih.e a y hy).1 (ih.e b z hz).1).imp fun σ H Q ⟨μ, e, S, he, hs, h⟩ => ?_, (pt_ife (ih.e c x hx).2 (ih.e a y hy).2 (ih.e b z hz).2).imp fun σ H Q ⟨μ, e, S, he, hs, h⟩ => ?_⟩
    · refine rd_bind (f := fun e S => asB (evE D.G LT x q e S)) (k := fun t S => if t = true then evE D.G LT y q e S else evE D.G LT z q e S) he hs h fun v1 H1 μ1 v S1 _ he1 hs1 rv h1 => ?_
      subst rv
      split at h1
      · rename_i ct
        rw [if_pos ct]
        exact ⟨μ1, e, S1, he1, hs1, h1⟩
      · rename_i ct
        rw [if_neg ct]
        exact ⟨μ1, e, S1, he1, hs1, h1⟩
    · have h : Po X Y rEq μ H ((asB (evE D.G LT x q e S)).bind fun t S => asB (if t = true then evE D.G LT y q e S else evE D.G LT z q e S)) Q := by
        have e1 : (asB (evE D.G LT (.ife x y z) q e S)) = (asB (evE D.G LT x q e S)).bind fun t S => asB (if t = true then evE D.G LT y q e S else evE D.G LT z q e S) := by
          show asB ((asB (evE D.G LT x q e S)).bind fun t S => if t = true then evE D.G LT y q e S else evE D.G LT z q e S) = _
          rw [asB_bind, R.assoc]
          rfl
        rw [← e1]
        exact h
      refine rd_bind (f := fun e S => asB (evE D.G LT x q e S)) (k := fun t S => asB (if t = true then evE D.G LT y q e S else evE D.G LT z q e S)) he hs h fun v1 H1 μ1 v S1 _ he1 hs1 rv h1 => ?_
      subst rv
      split at h1
      · rename_i ct
        rw [if_pos ct]
        exact ⟨μ1, e, S1, he1, hs1, h1⟩
      · rename_i ct
        rw [if_neg ct]
        exact ⟨μ1, e, S1, he1, hs1, h1⟩
  · -- t[::-1]
    rename_i a n p1 p2 p3 pos
    obtain ⟨x, hx, rfl⟩ := Option.map_eq_some_iff.mp h
    refine both ((pe_revT (ih.e a x hx).1).imp fun σ H Q ⟨μ, e, S, he, hs, h⟩ => ?_)
    refine rd_bind (k := fun x S => revop x S) (Rm := rV X.K) he hs h fun v1 H1 μ1 v S1 _ he1 hs1 rv h1 => ?_
    unfold revop at h1
    split at h1
    · cases rv with
      | tup ht rs => exact ⟨_, _, rfl, ht, fun p o dn hp => aft_tup (P := X.prog) (w := X.w) (T := Y.T) h1 hs1 rs.reverse hp dn⟩
    · exact h1.elim
  · -- a slice
    rename_i a lo hi p1 pos
    obtain ⟨x, hx, h⟩ := Option.bind_eq_some_iff.mp h
    obtain ⟨y, hy, h⟩ := Option.bind_eq_some_iff.mp h
    obtain ⟨z, hz, rfl⟩ := Option.map_eq_some_iff.mp h
    refine both ((pe_slice (sl_any (T := Y.T)) (ih.e a x hx).1 (ih.o lo y hy) (ih.o hi z hz)).imp fun σ H Q ⟨μ, e, S, he, hs, h⟩ => ?_)
    refine rd_bind (k := fun v S => (evO D.G LT y q e S).bind fun l S => (evO D.G LT z q e S).bind fun u S => slcop v l u S) he hs h fun v1 H1 μ1 v S1 _ he1 hs1 rv h1 => ?_
    refine rd_bind (k := fun l S => (evO D.G LT z q e S).bind fun u S => slcop v l u S) he1 hs1 h1 fun v2 H2 μ2 l S2 x2 he2 hs2 rl h2 => ?_
    refine rd_bind (k := fun u S => slcop v l u S) he2 hs2 h2 fun v3 H3 μ3 u S3 x3 he3 hs3 ru h3 => ?_
    subst rl ru
    exact ⟨μ3, S3, v, hs3, (rv.ext x2).ext x3, aft_of h3 ne_slc⟩
  · -- a[b]
    rename_i a b pos _ _
    obtain ⟨x, hx, h⟩ := Option.bind_eq_some_iff.mp h
    obtain ⟨y, hy, rfl⟩ := Option.map_eq_some_iff.mp h
    refine both ((pe_ix (ix_any (T := Y.T) ok.un) (ih.e a x hx).1 (ih.e b y hy).1 (tr_plainIx hy)).imp fun σ H Q ⟨μ, e, S, he, hs, h⟩ => ?_)
    exact rd_bind (k := fun v S => (evE D.G LT y q e S).bind fun u S => idxop v u S) he hs h fun v1 H1 μ1 v S1 _ he1 hs1 rv h1 => rd_bind (k := fun u S => idxop v u S) he1 hs1 h1 fun v2 H2 μ2 u S2 x2 _ hs2 ru h2 =>
      ⟨μ2, S2, v, u, hs2, rv.ext x2, ru, aft_of h2 ne_idx⟩
  · -- x(lambda: ..)
    rename_i x p args body scope lpos pos
    split at h
    · rename_i hh
      obtain ⟨t, ht, h⟩ := Option.bind_eq_some_iff.mp h
      obtain ⟨b, hb, rfl⟩ := Option.map_eq_some_iff.mp h
      obtain ⟨j, F, lam⟩ := ok.lam t x (ixOf_get ht)
      obtain ⟨a1, a2, a3, a4, a5, a6, a7⟩ := plain_args ⟨hh.2.1, hh.2.2.1, hh.2.2.2.1, hh.2.2.2.2.1, hh.2.2.2.2.2.1, hh.2.2.2.2.2.2.1, hh.2.2.2.2.2.2.2.1⟩
      have hL := ok.lamS hh.2.2.2.2.2.2.2.2
      exact both (lam args body scope lpos p pos (evE D.G LT b q.lam) a1 a2 a3 a4 a5 a6 a7 hL fun A outer s H E fa c hr => ((IH (ok.lamb F (LamX.lamS_by hL) A outer s H E fa c hr)).e body b hb).1)
    · cases h
  · -- a call
    rename_i x p args pos _
    split at h
    · rename_i hgl
      have hg := ok.gl x hgl
      obtain ⟨d1, _, d3⟩ := plain_dbg (glo_plain hgl)
      split at h
      · rename_i f hf
        obtain ⟨is, hi, rfl⟩ := Option.map_eq_some_iff.mp h
        obtain ⟨fa, fd, ps, m1, m2, m3, F⟩ := ok.fn.fn f x (by rw [← ok.fns]; exact ixOf_get hf)
        have hY : (⟨Y.T, D.cv, Y.E⟩ : Wx) = Y := by
          obtain ⟨yt, yc, ye⟩ := Y
          have := ok.cv
          simp only at this
          rw [this]
        have fin : ∀ σ H Q, rdE X Y q D.G LT (.call f is) σ H Q → rdL X Y q D.G LT is σ H fun vs H1 => spOf X.prog X.w X.K Y.T D.cv (q.C f) vs H1 Q Y.E := fun σ H Q ⟨μ, e, S, he, hs, h⟩ =>
          rd_bind (k := fun vs S => q.C f vs S) he hs h fun vs H1 μ1 ws S1 _ _ hs1 rv h1 => ⟨μ1, S1, ws, hs1, rv, by rw [hY]; exact h1⟩
        cases args with
        | nil =>
          refine both ((pe_callG0 F ok.room ok.gd hg m1 m2 m3 ok.tk d1).imp fun σ H Q hh => ?_)
          cases d with
          | zero => unfold trL at hi; cases hi
          | succ d =>
            unfold trL at hi
            cases hi
            obtain ⟨μ, e, S, he, hs, h⟩ := fin σ H Q hh
            exact h _ _ [] .refl hs .nil
        | cons a as => exact both ((pe_callG F ok.room ok.gd hg m1 m2 m3 ok.tk (ih.l _ is hi) (trL_noStar hi) d1).imp fin)
      · split at h
        · rename_i hx
          subst hx
          split at h
          · rename_i a t p2 _
            split at h
            · rename_i hgt
              obtain ⟨ty, hty, h⟩ := Option.bind_eq_some_iff.mp h
              obtain ⟨y, hy, rfl⟩ := Option.map_eq_some_iff.mp h
              have et := trTy_name hty
              subst et
              exact both (isi_case ok ty hg (ok.gl _ hgt) (ih.e a y hy).1 (tr_noStar hy))
            · cases h
          · cases h
        · split at h
          · rename_i a _
            obtain ⟨b, hb, h⟩ := Option.bind_eq_some_iff.mp h
            obtain ⟨y, hy, rfl⟩ := Option.map_eq_some_iff.mp h
            have eb := trBI_name hb
            subst eb
            exact both (bi_case ok b hg (ih.e a y hy).1 (tr_noStar hy))
          · cases h
    · cases h
  · -- a method
    rename_i o m apos args cpos
    split at h
    · cases h
    · rename_i hh
      have hh := not_or.mp hh
      have hl : (apos.endLine == cpos.line) = true := by simpa using hh.1
      have hc : notCall o = true := by simpa using hh.2
      split at h
      · rename_i a
        split at h
        · rename_i hm
          subst hm
          obtain ⟨x, hx, h⟩ := Option.bind_eq_some_iff.mp h
          obtain ⟨y, hy, rfl⟩ := Option.map_eq_some_iff.mp h
          exact both (app_case hl hc (ih.e o x hx).1 (ih.e a y hy).1 (tr_noStar hy))
        · cases h
      · rename_i a b
        split at h
        · rename_i hm
          subst hm
          obtain ⟨x, hx, h⟩ := Option.bind_eq_some_iff.mp h
          obtain ⟨y, hy, h⟩ := Option.bind_eq_some_iff.mp h
          obtain ⟨z, hz, rfl⟩ := Option.map_eq_some_iff.mp h
          exact both (get2_case ok hl hc (ih.e o x hx).1 (ih.e a y hy).1 (ih.e b z hz).1 (tr_noStar hy) (tr_noStar hz))
        · cases h
      · cases h
  · -- a comprehension
    rename_i elt tg iter ifs scope pos
    have h2 : trE T (d + 1) (.ListComp elt [⟨tg, iter, ifs, 0⟩] scope pos) = some i := by
      unfold trE
      exact h
    obtain ⟨wi, g, tt, te, p1, p2, p3, p4, p5, p6, p7⟩ := lc_parts d IH ok h2
    exact both ((pe_lc ok.calm ok.nd p1 p2 p3 p4 p5 p6).imp p7)
  · cases h
end
end Ev
end

section
set_option Elab.async false
set_option linter.all false
set_option autoImplicit false
set_option maxRecDepth 100000
set_option maxHeartbeats 8000000
/-! EvSimH: expressions, the whole. -/
namespace Ev
open PySem PySem.Spec PyProof.Rows L2 RZ
section
variable {D : Dt} {LT : Takers} {q : Ctx} {X : Cx} {Y : Wx} {k : Nat} {T : TC} {d : Nat}
theorem and_cons {a b : Expr} {rest : List Expr} {pos : Pos} {x y : IE} (ha : PE X a (rdE X Y q D.G LT x) ∧ PT X a (rdT X Y q D.G LT x))
    (hb : PE X (.BoolOp .And (b :: rest) pos) (rdE X Y q D.G LT y) ∧ PW X (.BoolOp .And (b :: rest) pos) (rdT X Y q D.G LT y)) :
    PE X (.BoolOp .And (a :: b :: rest) pos) (rdE X Y q D.G LT (.and x y)) ∧ PW X (.BoolOp .And (a :: b :: rest) pos) (rdT X Y q D.G LT (.and x y)) := by
  refine ⟨(pe_and ha.1 hb.1).imp fun σ H Q ⟨μ, e, S, he, hs, h⟩ => ?_, (pw_and ha.2 hb.2).imp fun σ H Q ⟨μ, e, S, he, hs, h⟩ => ?_⟩
  · refine rdT_to (rd_bind (f := fun e S => asB (evE D.G LT x q e S)) (k := fun c S => if c = true then evE D.G LT y q e S else R.ok (Val.bl false) S) (Rm := rV X.K) he hs h fun v1 H1 μ1 v S1 _ he1 hs1 rv h1 => ?_)
    subst rv
    split at h1
    · rename_i ct
      rw [if_pos ct]
      exact ⟨μ1, e, S1, he1, hs1, h1⟩
    · rename_i ct
      rw [if_neg ct]
      exact h1 _ _ _ .refl hs1 (.bl _)
  · have e1 : (asB (evE D.G LT (.and x y) q e S)) = (asB (evE D.G LT x q e S)).bind fun c S => asB (if c = true then evE D.G LT y q e S else R.ok (Val.bl false) S) := by
      show asB ((asB (evE D.G LT x q e S)).bind fun c S => if c = true then evE D.G LT y q e S else R.ok (Val.bl false) S) = _
      rw [asB_bind, R.assoc]
      rfl
    have h : Po X Y rEq μ H ((asB (evE D.G LT x q e S)).bind fun c S => asB (if c = true then evE D.G LT y q e S else R.ok (Val.bl false) S)) Q := by
      rw [← e1]
      exact h
    refine rd_bind (f := fun e S => asB (evE D.G LT x q e S)) (k := fun c S => asB (if c = true then evE D.G LT y q e S else R.ok (Val.bl false) S)) (Rm := rEq) he hs h fun v1 H1 μ1 v S1 _ he1 hs1 rv h1 => ?_
    subst rv
    split at h1
    · rename_i ct
      rw [if_pos ct]
      exact ⟨μ1, e, S1, he1, hs1, h1⟩
    · rename_i ct
      rw [if_neg ct]
      exact h1 _ _ _ .refl hs1 rfl
theorem or_cons {a b : Expr} {rest : List Expr} {pos : Pos} {x y : IE} (ha : PE X a (rdE X Y q D.G LT x) ∧ PT X a (rdT X Y q D.G LT x))
    (hb : PE X (.BoolOp .Or (b :: rest) pos) (rdE X Y q D.G LT y) ∧ PW X (.BoolOp .Or (b :: rest) pos) (rdT X Y q D.G LT y)) :
    PE X (.BoolOp .Or (a :: b :: rest) pos) (rdE X Y q D.G LT (.or x y)) ∧ PW X (.BoolOp .Or (a :: b :: rest) pos) (rdT X Y q D.G LT (.or x y)) := by
  refine ⟨(pe_or ha.1 hb.1).imp fun σ H Q ⟨μ, e, S, he, hs, h⟩ => ?_, (pw_or ha.2 hb.2).imp fun σ H Q ⟨μ, e, S, he, hs, h⟩ => ?_⟩
  · refine rdT_to (rd_bind (f := fun e S => asB (evE D.G LT x q e S)) (k := fun c S => if c = true then R.ok (Val.bl true) S else evE D.G LT y q e S) (Rm := rV X.K) he hs h fun v1 H1 μ1 v S1 _ he1 hs1 rv h1 => ?_)
    subst rv
    split at h1
    · rename_i ct
      rw [if_pos ct]
      exact h1 _ _ _ .refl hs1 (.bl _)
    · rename_i ct
      rw [if_neg ct]
      exact ⟨μ1, e, S1, he1, hs1, h1⟩
  · have e1 : (asB (evE D.G LT (.or x y) q e S)) = (asB (evE D.G LT x q e S)).bind fun c S => asB (if c = true then R.ok (Val.bl true) S else evE D.G LT y q e S) := by
      show asB ((asB (evE D.G LT x q e S)).bind fun c S => if c = true then R.ok (Val.bl true) S else evE D.G LT y q e S) = _
      rw [asB_bind, R.assoc]
      rfl
    have h : Po X Y rEq μ H ((asB (evE D.G LT x q e S)).bind fun c S => asB (if c = true then R.ok (Val.bl true) S else evE D.G LT y q e S)) Q := by
      rw [← e1]
      exact h
    refine rd_bind (f := fun e S => asB (evE D.G LT x q e S)) (k := fun c S => asB (if c = true then R.ok (Val.bl true) S else evE D.G LT y q e S)) (Rm := rEq) he hs h fun v1 H1 μ1 v S1 _ he1 hs1 rv h1 => ?_
    subst rv
    split at h1
    · rename_i ct
      rw [if_pos ct]
      exact h1 _ _ _ .refl hs1 rfl
    · rename_i ct
      rw [if_neg ct]
      exact ⟨μ1, e, S1, he1, hs1, h1⟩
theorem one_both {op : BoolOp} {a : Expr} {pos : Pos} {x : IE} (ha : PE X a (rdE X Y q D.G LT x) ∧ PT X a (rdT X Y q D.G LT x)) :
    PE X (.BoolOp op [a] pos) (rdE X Y q D.G LT x) ∧ PW X (.BoolOp op [a] pos) (rdT X Y q D.G LT x) := by
  cases op
  · exact ⟨pe_one ha.1, pw_and1 ha.2⟩
  · exact ⟨pe_one ha.1, pw_or1 ha.2⟩
theorem sim_l (ih : SimAt D LT T q X Y d) : ∀ (es : List Expr) (is : IEs), trL T (d + 1) es = some is → PA X es (rdL X Y q D.G LT is) := by
  intro es is h
  cases es with
  | nil =>
    unfold trL at h
    cases h
    exact pa_nil.imp fun σ H Q ⟨μ, e, S, he, hs, h⟩ => h _ _ [] .refl hs .nil
  | cons e es =>
    unfold trL at h
    obtain ⟨x, hx, h⟩ := Option.bind_eq_some_iff.mp h
    obtain ⟨xs, hxs, rfl⟩ := Option.map_eq_some_iff.mp h
    refine (pa_cons (ih.e e x hx).1 (ih.l es xs hxs) (starEach_cons (tr_noStar hx))).imp fun σ H Q ⟨μ, e, S, he, hs, h⟩ => ?_
    refine rd_bind (f := evE D.G LT x q) (k := fun v S => (evL D.G LT xs q e S).bind fun vs S => R.ok (v :: vs) S) (Rm := rVs X.K) he hs h fun y H1 μ1 v S1 _ he1 hs1 rv h1 => ?_
    exact rd_bind (f := evL D.G LT xs q) (k := fun vs S => R.ok (v :: vs) S) (Rm := rVs X.K) he1 hs1 h1 fun ys H2 μ2 vs S2 x2 he2 hs2 rvs h2 => h2 _ _ _ .refl hs2 (.cons (rv.ext x2) rvs)
theorem sim_o (ih : SimAt D LT T q X Y d) : ∀ (e : Option Expr) (i : IO), trO T (d + 1) e = some i → PO X e (rdO X Y q D.G LT i) := by
  intro e i h
  cases e with
  | none =>
    unfold trO at h
    cases h
    exact po_none.imp fun σ H Q ⟨μ, e, S, he, hs, h⟩ => h _ _ none .refl hs rfl
  | some e =>
    unfold trO at h
    obtain ⟨x, hx, rfl⟩ := Option.map_eq_some_iff.mp h
    refine (po_some (ih.e e x hx).1).imp fun σ H Q ⟨μ, e, S, he, hs, h⟩ => ?_
    exact rdI_to (rd_bind (f := fun e S => asI (evE D.G LT x q e S)) (k := fun i S => R.ok (some i) S) (Rm := rEq) he hs h fun y H1 μ1 v S1 _ he1 hs1 rv h1 => by
      subst rv
      exact h1 _ _ _ .refl hs1 rfl)
theorem sim_a (ih : SimAt D LT T q X Y d) : ∀ (es : List Expr) (i : IE) (pos : Pos), trAnd T (d + 1) es = some i → PE X (.BoolOp .And es pos) (rdE X Y q D.G LT i) ∧ PW X (.BoolOp .And es pos) (rdT X Y q D.G LT i) := by
  intro es i pos h
  rcases es with _ | ⟨a, _ | ⟨b, rest⟩⟩
  · unfold trAnd at h
    cases h
  · unfold trAnd at h
    exact one_both (ih.e a i h)
  · unfold trAnd at h
    obtain ⟨x, hx, h⟩ := Option.bind_eq_some_iff.mp h
    obtain ⟨y, hy, rfl⟩ := Option.map_eq_some_iff.mp h
    exact and_cons (ih.e a x hx) (ih.a _ y pos hy)
theorem sim_r (ih : SimAt D LT T q X Y d) : ∀ (es : List Expr) (i : IE) (pos : Pos), trOr T (d + 1) es = some i → PE X (.BoolOp .Or es pos) (rdE X Y q D.G LT i) ∧ PW X (.BoolOp .Or es pos) (rdT X Y q D.G LT i) := by
  intro es i pos h
  rcases es with _ | ⟨a, _ | ⟨b, rest⟩⟩
  · unfold trOr at h
    cases h
  · unfold trOr at h
    exact one_both (ih.e a i h)
  · unfold trOr at h
    obtain ⟨x, hx, h⟩ := Option.bind_eq_some_iff.mp h
    obtain ⟨y, hy, rfl⟩ := Option.map_eq_some_iff.mp h
    exact or_cons (ih.e a x hx) (ih.r _ y pos hy)
/-- a value as a thing walked -/
theorem src_of {μ : List Addr} {H : Hp} {S : Store} {v : Val} {x : V} {s : Src} (hs : StX X Y.T μ H S) (e : srcOf S v = some s) (r : VR X.K μ H v x) :
    ∃ a, x = .ref a ∧ ((∃ xs, SqL X.K H a xs ∧ SrcR X.K μ H s (Itl X.K a) ∧ ∀ vs, s ≠ .tup vs) ∨ ∃ xs vs, SqT X.K H a xs ∧ SrcR X.K μ H s (Itt X.K a) ∧ s = .tup vs ∧ VRs X.K μ H vs xs ∧ TupS X.K H a xs) := by
  unfold srcOf at e
  split at e
  · cases e
    cases r with
    | tup h rs => exact ⟨_, rfl, .inr ⟨_, _, h.sq, .tup h rs, rfl, rs, h⟩⟩
  · cases e
    cases r with
    | rol h rs => exact ⟨_, rfl, .inl ⟨_, h.sq, .rol h rs, fun vs z => by cases z⟩⟩
  · cases r with
    | obj h =>
      split at e
      · rename_i hn
        cases e
        obtain ⟨xs, q, _⟩ := sqL_of_cell hs hn rfl h
        exact ⟨_, rfl, .inl ⟨xs, q, .lst h, fun vs z => by cases z⟩⟩
      · cases e
  · cases e
theorem src_lstN {S : Store} {v : Val} {n : Nat} {μ : List Addr} {H : Hp} {x : V} (hs : StX X Y.T μ H S) (e : srcOf S v = some (.lst n)) (r : VR X.K μ H v x) : ∃ a xs, x = .ref a ∧ μ[n]? = some a ∧ SqL X.K H a xs := by
  unfold srcOf at e
  split at e
  · cases e
  · cases e
  · cases r with
    | obj h =>
      split at e
      · rename_i hn
        cases e
        obtain ⟨xs, q, _⟩ := sqL_of_cell hs hn rfl h
        exact ⟨_, xs, rfl, h, q⟩
      · cases e
  · cases e
theorem src_tupV {S : Store} {v : Val} {vs : List Val} (e : srcOf S v = some (.tup vs)) : v = .tup vs := by
  unfold srcOf at e
  split at e
  · cases e
    rfl
  · cases e
  · split at e <;> cases e
  · cases e
theorem zip_reads {a b : Expr} {x y : IE} (ha : PE X a (rdE X Y q D.G LT x)) (hb : PE X b (rdE X Y q D.G LT y)) (n : noStar a = true) (n' : noStar b = true) :
    ∀ σ H R, rdI X Y q D.G LT (.zip x y) σ H R → iZipA X.K (fun σ H Q => rdE X Y q D.G LT x σ H fun v H1 => rdE X Y q D.G LT y σ H1 fun u H2 => Q [v, u] H2) σ H R := by
  intro σ H RR ⟨μ, e, S, he, hs, h⟩
  refine rd_bind (f := evE D.G LT x q) (k := fun v S => (evE D.G LT y q e S).bind fun u S => zipop v u S) he hs h fun v1 H1 μ1 v S1 _ he1 hs1 rv h1 => ?_
  refine rd_bind (f := evE D.G LT y q) (k := fun u S => zipop v u S) he1 hs1 h1 fun v2 H2 μ2 u S2 x2 he2 hs2 ru h2 => ?_
  have rv := rv.ext x2
  unfold zipop at h2
  split at h2
  · rename_i xs ys e1 e2
    have z1 := src_tupV e1
    have z2 := src_tupV e2
    subst z1 z2
    cases rv with
    | tup t1 r1 =>
      cases ru with
      | tup t2 r2 => exact ⟨_, _, _, _, rfl, .inr ⟨t1.sq, t2.sq, h2 _ _ _ .refl hs2 (.zipT t1 r1 t2 r2)⟩⟩
  · rename_i m n e1 e2
    obtain ⟨a1, xs, rfl, g1, g2⟩ := src_lstN hs2 e1 rv
    obtain ⟨a2, ys, rfl, g3, g4⟩ := src_lstN hs2 e2 ru
    exact ⟨_, _, xs, ys, rfl, .inl ⟨g2, g4, h2 _ _ _ .refl hs2 (.zipL g1 g3)⟩⟩
  · exact h2.elim
theorem seq_case {tg a : Expr} {x : IE} (ha : PE X a (rdE X Y q D.G LT x)) : PI X tg a (rdI X Y q D.G LT (.seq x)) := by
  refine (pi_seq ha).imp fun σ H RR ⟨μ, e, S, he, hs, h⟩ => ?_
  refine rd_bind (f := evE D.G LT x q) (k := fun v S => seqop v S) (Rm := SrcR X.K) he hs h fun v1 H1 μ1 v S1 _ he1 hs1 rv h1 => ?_
  unfold seqop at h1
  split at h1
  · rename_i s hv
    obtain ⟨b, rfl, hb⟩ := src_of hs1 hv rv
    refine ⟨b, rfl, ?_⟩
    rcases hb with ⟨xs, g1, g2, _⟩ | ⟨xs, vs, g1, g2, _⟩
    · exact .inl ⟨xs, g1, h1 _ _ _ .refl hs1 g2⟩
    · exact .inr ⟨xs, g1, h1 _ _ _ .refl hs1 g2⟩
  · exact h1.elim
theorem sim_i (ok : XOk D LT k T q X Y) (ih : SimAt D LT T q X Y d) : ∀ (e : Expr) (i : II) (tg : Expr), trI T (d + 1) e = some i → ((∃ a b, i = .zip a b) → ∃ es n p, tg = .Tuple es n p) → PI X tg e (rdI X Y q D.G LT i) := by
  intro e i tg h hz
  have plain : ∀ {e : Expr}, (trE T d e).map II.seq = some i → PI X tg e (rdI X Y q D.G LT i) := fun {e} h => by
    obtain ⟨x, hx, rfl⟩ := Option.map_eq_some_iff.mp h
    exact seq_case (ih.e e x hx).1
  unfold trI at h
  split at h
  · rename_i x p a pos
    split at h
    · rename_i hh
      obtain ⟨hx, hgl⟩ := hh
      subst hx
      obtain ⟨y, hy, rfl⟩ := Option.map_eq_some_iff.mp h
      have n := tr_noStar hy
      refine (pi_range1 (ok.gl _ hgl) (ok.md.blt _ (by decide +kernel)) (pa_one (ih.e a y hy).1 n) (starEach_cons n)).imp fun σ H RR ⟨μ, e, S, he, hs, h⟩ => ?_
      have h2 : rd X Y rEq (fun e S => asI (evE D.G LT y q e S)) σ H (fun j H1 => -(2 ^ 62) ≤ j ∧ j < 2 ^ 62 ∧ RR (Itr 0 j.toNat) H1) := rd_bind (f := fun e S => asI (evE D.G LT y q e S)) (k := fun i S => rngop i S) (Rm := SrcR X.K) he hs h fun v1 H1 μ1 v S1 _ he1 hs1 rv h1 => by
        subst rv
        unfold rngop at h1
        split at h1
        · exact ⟨by omega, by omega, h1 _ _ _ .refl hs1 (.rng _)⟩
        · exact h1.elim
      obtain ⟨μ', e', S', he', hs', h3⟩ := rdI_to h2
      exact ⟨μ', e', S', he', hs', h3.mono fun b μ1 H1 a S1 _ _ _ _ ⟨c, e1, e2, e3, e4⟩ => ⟨c, by rw [e1], e2, e3, e4⟩⟩
    · exact plain h
  · rename_i x p a b pos
    split at h
    · rename_i hh
      obtain ⟨hx, hgl⟩ := hh
      subst hx
      obtain ⟨y, hy, h⟩ := Option.bind_eq_some_iff.mp h
      obtain ⟨z, hz', rfl⟩ := Option.map_eq_some_iff.mp h
      obtain ⟨es, n, pp, rfl⟩ := hz ⟨_, _, rfl⟩
      have n1 := tr_noStar hy
      have n2 := tr_noStar hz'
      exact (pi_zipA (ok.gl _ hgl) (ok.md.blt _ (by decide +kernel)) (pa_two (ih.e a y hy).1 (ih.e b z hz').1 n1 n2) (starEach_cons n1) (starEach_any (by simpa using n2))).imp (zip_reads (ih.e a y hy).1 (ih.e b z hz').1 n1 n2)
    · exact plain h
  · exact plain h
end
/-- the theorem on expressions -/
theorem sim_all {D : Dt} {LT : Takers} : ∀ (d : Nat) {k : Nat} {T : TC} {q : Ctx} {X : Cx} {Y : Wx}, XOk D LT k T q X Y → SimAt D LT T q X Y d
  | 0, k, T, q, X, Y, ok => ⟨fun e i h => by (unfold trE at h; cases h), fun e i h => by (unfold trL at h; cases h), fun e i h => by (unfold trO at h; cases h), fun e i p h => by (unfold trAnd at h; cases h), fun e i p h => by (unfold trOr at h; cases h), fun e i t h => by (unfold trI at h; cases h)⟩
  | d + 1, k, T, q, X, Y, ok =>
    have ih := sim_all d ok
    ⟨sim_step d (fun o => sim_all d o) ok, sim_l ih, sim_o ih, sim_a ih, sim_r ih, sim_i ok ih⟩
end Ev
end

section
set_option Elab.async false
set_option linter.all false
set_option autoImplicit false
set_option maxRecDepth 100000
set_option maxHeartbeats 8000000
/-! EvStm: the evaluator's word on statements is the model's. -/
namespace Ev
open PySem PySem.Spec PyProof.Rows L2 RZ
/-- how the end of a statement is wished for -/
def PostF (X : Cx) (Y : Wx) (Z : Ends) (μ : List Addr) (H : Hp) (r : F) : Prop :=
  match r with
  | .next e S => ∀ σ' μ' H', Ext X.K μ H μ' H' → EnvR X.K μ' H' e σ' → StX X Y.T μ' H' S → Z.nx σ' H'
  | .brk e S => ∀ σ' μ' H', Ext X.K μ H μ' H' → EnvR X.K μ' H' e σ' → StX X Y.T μ' H' S → Z.bk σ' H'
  | .cont e S => ∀ σ' μ' H', Ext X.K μ H μ' H' → EnvR X.K μ' H' e σ' → StX X Y.T μ' H' S → Z.ct σ' H'
  | .ret v S => ∀ μ' H' x, Ext X.K μ H μ' H' → StX X Y.T μ' H' S → VR X.K μ' H' v x → Z.rt x H'
  | .err c _ S => ∀ μ' H', Ext X.K μ H μ' H' → StX X Y.T μ' H' S → Y.E (Y.cv c) none H'
  | .stuck => False
section
variable {X : Cx} {Y : Wx} {Z Z' : Ends} {μ μ1 : List Addr} {H H1 : Hp} {r : F} {e : Env} {σ : L2.St} {S : Store}
theorem PostF.ext (h : PostF X Y Z μ H r) (x : Ext X.K μ H μ1 H1) : PostF X Y Z μ1 H1 r := by
  cases r with
  | next e S => exact fun σ' μ' H' x' => h σ' μ' H' (x.trans x')
  | brk e S => exact fun σ' μ' H' x' => h σ' μ' H' (x.trans x')
  | cont e S => exact fun σ' μ' H' x' => h σ' μ' H' (x.trans x')
  | ret v S => exact fun μ' H' y x' => h μ' H' y (x.trans x')
  | err c e S => exact fun μ' H' x' => h μ' H' (x.trans x')
  | stuck => exact h
/-- what is read of a statement -/
def rdF (X : Cx) (Y : Wx) (f : Env → Store → F) : TS := fun Z σ H => ∃ μ e S, EnvR X.K μ H e σ ∧ StX X Y.T μ H S ∧ PostF X Y Z μ H (f e S)
theorem rdF_bind {α β : Type} {Rl : List Addr → Hp → α → β → Prop} {f : Env → Store → R α} {k : α → Store → F} {Q' : β → Hp → Prop} (he : EnvR X.K μ H e σ) (hs : StX X Y.T μ H S) (h : PostF X Y Z μ H ((f e S).toF e k))
    (m : ∀ b H1 μ1 a S1, Ext X.K μ H μ1 H1 → EnvR X.K μ1 H1 e σ → StX X Y.T μ1 H1 S1 → Rl μ1 H1 a b → PostF X Y Z μ1 H1 (k a S1) → Q' b H1) : rd X Y Rl f σ H Q' := by
  refine ⟨μ, e, S, he, hs, ?_⟩
  cases q : f e S with
  | ok a S1 =>
    rw [q] at h
    exact fun μ1 H1 b x s r => m b H1 μ1 a S1 x (he.ext x) s r (PostF.ext (r := k a S1) h x)
  | err c S1 =>
    rw [q] at h
    exact h
  | stuck =>
    rw [q] at h
    exact h
theorem PostF.seq {k : Env → Store → F} (h : PostF X Y Z μ H (r.bind k)) : PostF X Y { Z with nx := rdF X Y k Z } μ H r := by
  cases r with
  | next e S => exact fun σ' μ' H' x he hs => ⟨μ', e, S, he, hs, PostF.ext (r := k e S) h x⟩
  | brk e S => exact h
  | cont e S => exact h
  | ret v S => exact h
  | err c e S => exact h
  | stuck => exact h
end
/-- raise C(), an own class without own __init__ -/
theorem pmk_own0 {X : Cx} {C : Addr} {bm : List Value} {B n m : String} {x : Str} {p pos : Pos} (F : ExcBaseFacts B n m bm) (q : PySem.W.excIn X.K C bm n = true) (gC : X.mg x = some (.ref C)) (kC : PySem.W.keepIn X.K (.ref C) = true) (r : Raises X (.ref C)) (hg : Gl X x)
    (hdb : (x == ("__debug__" : Str)) = false) : PMk X (.Call (.Name x p) [] [] pos) (fun _ H Q => Q (.ref C) none H) := by
  intro pins s σ H Q I h
  refine wpAny_Call_Name_kw (ld_glob I hg gC ?_ hdb)
  refine PySem.W.callWith_K0 I.kIn kC ?_
  show wpAny _ _ (call (.ref C) []) _ _ _
  obtain ⟨bm, N, nm, qn, bs, hdct, sn, sub, ab, col, dd, k0, k1, k2, k3, k5, mN, hC, hN, hni, T⟩ := exc_obj I.kIn q
  exact wpAny_call_exc_subT F T hC hN hni (fun h' e hm => mk_of I hm r h (I.hok.gone hm.new)) (Nat.zero_le _)

/-- a def's body -/
structure SOk (D : Dt) (LT : Takers) (k : Nat) (T : TC) (q : Ctx) (X : Cx) (Y : Wx) : Prop where
  x : XOk D LT k T q X Y
  sc : X.env.scope = T.sc
  kind : X.env.scope.kind = .function
  po : PassesOwn (model X.prog X.w) X.A X.env X.xe
section
variable {D : Dt} {LT : Takers} {q : Ctx} {X : Cx} {Y : Wx} {k : Nat} {T : TC} {W : Nat}
abbrev rdS (X : Cx) (Y : Wx) (q : Ctx) (G : List Val) (LT : Takers) (W : Nat) (i : IS) : TS := rdF X Y (evS G LT W q i)
abbrev rdB (X : Cx) (Y : Wx) (q : Ctx) (G : List Val) (LT : Takers) (W : Nat) (i : IB) : TS := rdF X Y (evB G LT W q i)
theorem sw_pure {e : Expr} {t : Expr} {l : Nat} {env : PySem.Env} {d : Nat} {i : IE} (h : trE T d e = some i) : swapsWith e (some t) l env = pure false ∨ ∃ elt gs scope pos y py, e = .ListComp elt gs scope pos ∧ t = .Name y py := by
  cases e <;> first | exact .inl rfl | (cases d <;> cases h; done) | skip
  cases t <;> first | exact .inl rfl | exact .inr ⟨_, _, _, _, _, _, rfl, rfl⟩
theorem sw_none {e : Expr} {l : Nat} {env : PySem.Env} {d : Nat} {i : IE} (h : trE T d e = some i) (n : notLC e = true) : swapsWith e none l env = pure false := by
  cases e <;> first | rfl | (cases d <;> cases h; done) | cases n
/-- e is stored: as a whole -/
theorem asg_read {t : Tg} {i : IE} : ∀ (Z : Ends) σ H, rdS X Y q D.G LT W (.asg t i) Z σ H → tAsg (rdE X Y q D.G LT i) (rdG X Y t) Z σ H := fun Z σ H ⟨μ, e, S, he, hs, h⟩ => by
  have h : PostF X Y Z μ H ((evE D.G LT i q e S).toF e fun v S => match setT t v e with | some e => .next e S | none => .stuck) := h
  refine rdF_bind (f := evE D.G LT i q) he hs h fun x H1 μ1 v S1 x1 he1 hs1 rv h1 => ?_
  split at h1
  · rename_i e2 hst
    exact ⟨μ1, e, v, e2, he1, .inl rv, hst, fun σ2 he2 _ => h1 σ2 μ1 H1 .refl he2 hs1⟩
  · exact h1.elim
theorem asg_case (ok : SOk D LT k T q X Y) {d : Nat} {tg e : Expr} {pos : Pos} {t : Tg} {i : IE} (ht : trT T d tg = some t) (hi : trE T d e = some i) (hw : swappedStores [tg] e X.env = pure none) : PS X (.Assign [tg] e pos) (rdS X Y q D.G LT W (.asg t i)) := by
  have hg := (pg_all (X := X) (Y := Y) ok.x.N ok.x.nd ok.x.calm ok.x.own d).1 tg t ht
  have he := ((sim_all d ok.x).e e i hi).1
  have h1 : (assignEach [tg] X.env).map (·.2) = [assign tg X.env] := by
    rw [assignEach_all (es := [tg]) (by simpa using tg_noStar ht)]
    rfl
  have plain : swapsWith e (some tg) pos.line X.env = pure false → PS X (.Assign [tg] e pos) (rdS X Y q D.G LT W (.asg t i)) := fun hs => (ps_asg he hg hs hw h1).imp asg_read
  rcases sw_pure (t := tg) (l := pos.line) (env := X.env) hi with hs | ⟨elt, gs, scope, pos', y, py, rfl, rfl⟩
  · exact plain hs
  · obtain ⟨b, hb⟩ : ∃ b : Bool, b = (X.env.blockKind == .function && X.env.kindOf y == some .local && py.line == pos'.line && !(scope.names.any fun (n, k) => n == y && (k == .local || k == .cell))) := ⟨_, rfl⟩
    have hsw : swapsWith (.ListComp elt gs scope pos') (some (.Name y py)) pos.line X.env = pure b := by rw [hb]; rfl
    cases b with
    | false => exact plain hsw
    | true =>
      have hyl : X.env.scope.names.lookup y = some .local := by
        have hb := hb.symm
        simp only [Bool.and_eq_true, beq_iff_eq] at hb
        exact hb.1.1.2
      cases d with
      | zero => unfold trE at hi; cases hi
      | succ d =>
        have no : ∀ {z : Option IE}, z = some i → z = none → False := fun a b => by rw [b] at a; cases a
        rcases gs with _ | ⟨⟨tg2, iter, ifs, as⟩, _ | ⟨g2, gs⟩⟩
        · exact (no hi rfl).elim
        · have has : as = 0 := by
            cases as with
            | ofNat n => cases n with
              | zero => rfl
              | succ n => exact (no hi rfl).elim
            | negSucc n => exact (no hi rfl).elim
          subst has
          obtain ⟨wi, g, tt, te, p1, p2, p3, p4, p5, p6, p7⟩ := lc_parts d (fun o => sim_all d o) ok.x hi
          have ht : (if ownNm T.sc y = true ∧ plainName y = true then (ixOf y T.N).map Tg.name else none) = some t := ht
          split at ht
          · obtain ⟨n, hn, rfl⟩ := Option.map_eq_some_iff.mp ht
            refine (ps_setLc ok.x.calm ok.x.nd (by rw [ok.x.N]; exact ixOf_get hn) hyl hsw p1 p2 p3 p4 p5 p6).imp fun Z σ H h => ?_
            obtain ⟨μ, e, S, he, hs, h⟩ := asg_read Z σ H h
            refine p7 σ H _ ⟨μ, e, S, he, hs, h.mono fun x μ1 H1 v S1 _ _ _ _ ⟨μ2, e2, v2, e3, he2, rv2, hst, w⟩ => ?_⟩
            unfold setT at hst
            split at hst
            · cases hst
              have rv2 : VR X.K μ2 H1 v2 x := by
                rcases rv2 with rv | ⟨⟨ts, z⟩, _⟩
                · exact rv
                · cases z
              exact w _ (he2.set n rv2) fun own ho => wipe_set (by unfold tgIn at ho; exact of_decide_eq_true ho)
            · cases hst
          · cases ht
        · cases as with
          | ofNat n => cases n with
            | zero => exact (no hi rfl).elim
            | succ n => exact (no hi rfl).elim
          | negSucc n => exact (no hi rfl).elim
end
end Ev
end

section
set_option Elab.async false
set_option linter.all false
set_option autoImplicit false
set_option maxRecDepth 100000
set_option maxHeartbeats 8000000
/-! EvStm2: statements, the whole. -/
namespace Ev
open PySem PySem.Spec PyProof.Rows L2 RZ
section
variable {D : Dt} {LT : Takers} {q : Ctx} {X : Cx} {Y : Wx} {k : Nat} {T : TC} {W : Nat}
theorem while_case {c : Expr} {b : List Stmt} {pos : Pos} {x : IE} {y : IB} (po : PassesOwn (model X.prog X.w) X.A X.env X.xe) (hc : PT X c (rdT X Y q D.G LT x)) (hb : PSs X b (rdB X Y q D.G LT W y)) : PS X (.While c b [] pos) (rdS X Y q D.G LT W (.whl x y)) := by
  refine (ps_while po hc hb).imp fun Z σ H ⟨μ, e, S, he, hs, h⟩ => ?_
  have h : PostF X Y Z μ H (whileLoop (fun e S => asB (evE D.G LT x q e S)) (evB D.G LT W q y) W e S) := h
  refine ⟨fun m σ H => ∃ μ e S, EnvR X.K μ H e σ ∧ StX X Y.T μ H S ∧ PostF X Y Z μ H (whileLoop (fun e S => asB (evE D.G LT x q e S)) (evB D.G LT W q y) m e S), ⟨W, μ, e, S, he, hs, h⟩, ?_⟩
  rintro m σ H ⟨μ, e, S, he, hs, h⟩
  cases m with
  | zero => exact h.elim
  | succ m =>
    unfold whileLoop at h
    refine rdF_bind (f := fun e S => asB (evE D.G LT x q e S)) he hs h fun b H1 μ1 v S1 x1 he1 hs1 rv h1 => ?_
    subst rv
    split at h1
    · rename_i ct
      rw [if_pos ct]
      refine ⟨fun σ H => ∃ μ e S, EnvR X.K μ H e σ ∧ StX X Y.T μ H S ∧ PostF X Y Z μ H (whileLoop (fun e S => asB (evE D.G LT x q e S)) (evB D.G LT W q y) m e S), fun σ' H' z => ⟨m, Nat.lt_succ_self m, z⟩, μ1, e, S1, he1, hs1, ?_⟩
      cases eb : evB D.G LT W q y e S1 with
      | next e2 S2 => rw [eb] at h1; exact fun σ' μ' H' x' he' hs' => ⟨μ', e2, S2, he', hs', PostF.ext (r := whileLoop (fun e S => asB (evE D.G LT x q e S)) (evB D.G LT W q y) m e2 S2) h1 x'⟩
      | cont e2 S2 => rw [eb] at h1; exact fun σ' μ' H' x' he' hs' => ⟨μ', e2, S2, he', hs', PostF.ext (r := whileLoop (fun e S => asB (evE D.G LT x q e S)) (evB D.G LT W q y) m e2 S2) h1 x'⟩
      | brk e2 S2 => rw [eb] at h1; exact h1
      | ret v S2 => rw [eb] at h1; exact h1
      | err c e2 S2 => rw [eb] at h1; exact h1
      | stuck => rw [eb] at h1; exact h1
    · rename_i ct
      rw [if_neg ct]
      exact h1 σ μ1 H1 .refl he1 hs1
theorem for_case {tg it : Expr} {b : List Stmt} {pos : Pos} {t : Tg} {i : II} {y : IB} (po : PassesOwn (model X.prog X.w) X.A X.env X.xe) (hc : X.calm = true) (hi : PI X tg it (rdI X Y q D.G LT i)) (hg : PG X tg (rdG X Y t)) (hb : PSs X b (rdB X Y q D.G LT W y))
    (hs : ∀ x, foldedSetIterable it X.env x = pure x) : PS X (.For tg it b [] pos) (rdS X Y q D.G LT W (.for t i y)) := by
  refine (ps_for po hc hi hg hb hs).imp fun Z σ H ⟨μ, e, S, he, hs, h⟩ => ?_
  have h : PostF X Y Z μ H ((evI D.G LT i q e S).toF e fun src S => if tgOk src t = false then .stuck else forLoop src t (evB D.G LT W q y) (src.len S + 1) 0 e S) := h
  refine rdF_bind (f := evI D.G LT i q) he hs h fun J H1 μ1 src S1 x1 he1 hs1 rs h1 => ?_
  split at h1
  · exact h1.elim
  · rename_i ht
    have ht : tgOk src t = true := by simpa using ht
    refine ⟨fun i m σ H => ∃ μ e S, EnvR X.K μ H e σ ∧ StX X Y.T μ H S ∧ SrcR X.K μ H src J ∧ PostF X Y Z μ H (forLoop src t (evB D.G LT W q y) m i e S), ⟨_, μ1, e, S1, he1, hs1, rs, h1⟩, ?_⟩
    rintro i m σ H ⟨μ, e, S, he, hs, rs, h⟩
    obtain ⟨g1, g2⟩ := src_at (X := X) (Y := Y) (pins := []) (i := i) hs rs
    cases m with
    | zero => exact h.elim
    | succ m =>
      unfold forLoop at h
      cases ea : src.at S i with
      | none => rw [ea] at h; exact h.elim
      | some o =>
        rw [ea] at h
        cases o with
        | none => exact .inl ⟨g1 ea, h σ μ H .refl he hs⟩
        | some v =>
          obtain ⟨ggo, gy⟩ := g2 v t ea ht
          dsimp only at h
          refine .inr ⟨ggo, fun σ H => ∃ μ e S, EnvR X.K μ H e σ ∧ StX X Y.T μ H S ∧ SrcR X.K μ H src J ∧ PostF X Y Z μ H (forLoop src t (evB D.G LT W q y) m (i + 1) e S), fun σ' H' z => ⟨m, Nat.lt_succ_self m, z⟩, fun x H' yl => ?_⟩
          obtain ⟨x2, hs2, _, vg⟩ := gy x H' yl
          cases es : setT t v e with
          | none => rw [es] at h; exact h.elim
          | some e2 =>
            rw [es] at h
            dsimp only at h
            refine ⟨μ, e, v, e2, he.ext x2, vg, es, fun σ2 he2 _ => ⟨μ, e2, S, he2, hs2, ?_⟩⟩
            have h := h.ext x2
            cases eb : evB D.G LT W q y e2 S with
            | next e3 S3 => rw [eb] at h; exact fun σ' μ' H'' x' he' hs' => ⟨μ', e3, S3, he', hs', (rs.ext x2).ext x', PostF.ext (r := forLoop src t (evB D.G LT W q y) m (i + 1) e3 S3) h x'⟩
            | cont e3 S3 => rw [eb] at h; exact fun σ' μ' H'' x' he' hs' => ⟨μ', e3, S3, he', hs', (rs.ext x2).ext x', PostF.ext (r := forLoop src t (evB D.G LT W q y) m (i + 1) e3 S3) h x'⟩
            | brk e3 S3 => rw [eb] at h; exact h
            | ret v S3 => rw [eb] at h; exact h
            | err c e3 S3 => rw [eb] at h; exact h
            | stuck => rw [eb] at h; exact h
theorem plainLoc_eq {sc : Scope} {x : Str} : plainLoc sc x = (sc.names.lookup x == some .local) := by
  unfold plainLoc
  cases h : sc.names.lookup x with
  | none => rfl
  | some k => cases k <;> rfl
theorem swapped_some {x y : Str} {px py pt p2 : Pos} {n n2 : Nat} {a b : Expr} {env : PySem.Env} (hk : env.scope.kind = .function) (hx : env.scope.names.lookup x = some .local) (hy : env.scope.names.lookup y = some .local) (hxy : (x == y) = false) (hl : px.line = py.line)
    (n1 : noStar a = true) (n3 : noStar b = true) (hf : foldedForSure 8 a = false) (hc : constantsAlone 8 a = false) : swappedStores [.Tuple [.Name x px, .Name y py] n pt] (.Tuple [a, b] n2 p2) env = pure (some [x, y]) := by
  have kx : env.kindOf x = some .local := hx
  have ky : env.kindOf y = some .local := hy
  have hb : env.blockKind = .function := by unfold PySem.Env.blockKind; rw [hk]; rfl
  have sa : ∀ e : Expr, noStar e = true → (match e with | .Starred .. => true | _ => false) = false := by
    intro e h
    cases e <;> first | rfl | cases h
  have st : ([a, b].any fun | .Starred .. => true | _ => false) = false := by
    rw [List.any_cons, List.any_cons, List.any_nil, sa a n1, sa b n3]
    rfl
  have hxy2 : ¬ x = y := by simpa using hxy
  have hd : ([x, y] : List Str).eraseDups = [x, y] := by
    rw [List.eraseDups_cons]
    have e1 : (List.filter (fun b => !b == x) [y]) = [y] := by
      rw [List.filter_cons]
      have : (!y == x) = true := by
        rw [Bool.not_eq_true', beq_eq_false_iff_ne]
        exact fun z => hxy2 z.symm
      rw [if_pos this, List.filter_nil]
    rw [e1]
    rfl
  have e1 : ([Expr.Name x px, Expr.Name y py].filterMap fun
    | .Name id pos => if env.kindOf id == some .local && pos.line == px.line then some id else none
    | _ => none) = [x, y] := by
    rw [List.filterMap_cons, List.filterMap_cons, List.filterMap_nil]
    simp [kx, ky, hl]
  show (if (!(2 == 2 || 2 == 3) || 2 != 2 || env.blockKind != .function) = true then pure none else
    if ([a, b].any fun | .Starred .. => true | _ => false) = true then pure none else
    if (([Expr.Name x px, Expr.Name y py].filterMap fun
    | .Name id pos => if env.kindOf id == some .local && pos.line == px.line then some id else none
    | _ => none).length != 2 || ([Expr.Name x px, Expr.Name y py].filterMap fun
    | .Name id pos => if env.kindOf id == some .local && pos.line == px.line then some id else none
    | _ => none).eraseDups.length != ([Expr.Name x px, Expr.Name y py].filterMap fun
    | .Name id pos => if env.kindOf id == some .local && pos.line == px.line then some id else none
    | _ => none).length) = true then pure none else
    if ([a, b].all (foldedForSure 8)) = true then pure none else
    if ([a, b].all (constantsAlone 8)) = true then unsupported "assign.tuple-of-constant-expressions:order-of-the-stores" >>= fun _ => pure (some ([Expr.Name x px, Expr.Name y py].filterMap fun
    | .Name id pos => if env.kindOf id == some .local && pos.line == px.line then some id else none
    | _ => none)) else pure (some ([Expr.Name x px, Expr.Name y py].filterMap fun
    | .Name id pos => if env.kindOf id == some .local && pos.line == px.line then some id else none
    | _ => none))) = pure (some [x, y])
  rw [st, e1, hd, hb]
  simp [hf, hc]
theorem swapped_none2 {x y : Str} {px py pt p2 : Pos} {n n2 : Nat} {a b : Expr} {env : PySem.Env} (h : ¬ (plainLoc env.scope x = true ∧ plainLoc env.scope y = true)) : swappedStores [.Tuple [.Name x px, .Name y py] n pt] (.Tuple [a, b] n2 p2) env = pure none := by
  have key : ([Expr.Name x px, Expr.Name y py].filterMap fun
    | .Name id pos => if env.kindOf id == some .local && pos.line == px.line then some id else none
    | _ => none).length ≠ 2 := by
    rw [plainLoc_eq, plainLoc_eq] at h
    rw [List.filterMap_cons, List.filterMap_cons, List.filterMap_nil]
    have kx : env.kindOf x = env.scope.names.lookup x := rfl
    have ky : env.kindOf y = env.scope.names.lookup y := rfl
    dsimp only
    rw [kx, ky]
    cases hx : (env.scope.names.lookup x == some NameKind.local) with
    | false =>
      simp only [hx, Bool.false_and, Bool.false_eq_true, if_false]
      split <;> simp
    | true =>
      cases hy : (env.scope.names.lookup y == some NameKind.local) with
      | false =>
        simp only [hy, Bool.false_and, Bool.false_eq_true, if_false]
        split <;> simp_all
      | true => exact absurd ⟨hx, hy⟩ h
  unfold swappedStores
  dsimp only
  split
  · rfl
  · split
    · rfl
    · rename_i z1 z2
      rw [if_pos]
      rw [Bool.or_eq_true]
      exact .inl (bne_iff_ne.mpr key)
theorem swapped_none {t e : Expr} {env : PySem.Env} {d : Nat} {g : Tg} (ht : trT T d t = some g) (h : ¬ (isTup t && isTup e) = true) : swappedStores [t] e env = pure none := by
  cases t <;> first | rfl | (cases d <;> cases ht; done) | skip
  cases e <;> first | rfl | exact absurd rfl h
theorem sub_case (ok : SOk D LT k T q X Y) {d : Nat} {o i e : Expr} {pos' pos : Pos} {x y z : IE} (ho : trE T d o = some x) (hi : trE T d i = some y) (he : trE T d e = some z) : PS X (.Assign [.Subscript o i pos'] e pos) (rdS X Y q D.G LT W (.sub x y z)) := by
  have sim := sim_all (D := D) (LT := LT) d ok.x
  have hs : swapsWithSole [.Subscript o i pos'] e pos.line X.env = pure false := by
    rcases sw_pure (t := .Subscript o i pos') (l := pos.line) (env := X.env) he with hs | ⟨_, _, _, _, _, _, _, z⟩
    · exact hs
    · cases z
  have hw : swappedStores [.Subscript o i pos'] e X.env = pure none := by cases e <;> rfl
  have ha : ∀ v, assign (.Subscript o i pos') X.env v = (do
      let ov ← holding [v] (eval o X.env)
      let iv ← holding [v, ov] (eval i X.env)
      standAt pos'
      holding [v, ov, iv] (setItem ov iv v)
      release [v, ov, iv] []) := by
    intro v
    cases i <;> first | rfl | (cases d <;> cases hi)
  refine (ps_asg (sim.e e z he).1 (pg_sub (sim.e o x ho).1 (sim.e i y hi).1 (set_any (T := Y.T) ok.x.un) ha) hs hw rfl).imp fun Z σ H ⟨μ, e, S, hv, hs, h⟩ => ?_
  have h : PostF X Y Z μ H ((evE D.G LT z q e S).toF e fun v S => (evE D.G LT x q e S).toF e fun ov S => (evE D.G LT y q e S).toF e fun kv S => match setop ov kv v S with
    | some S => .next e S
    | none => .stuck) := h
  refine rdF_bind (f := evE D.G LT z q) hv hs h fun v1 H1 μ1 v S1 x1 he1 hs1 rv h1 => ?_
  refine rdF_bind (f := evE D.G LT x q) he1 hs1 h1 fun v2 H2 μ2 ov S2 x2 he2 hs2 ro h2 => ?_
  refine rdF_bind (f := evE D.G LT y q) he2 hs2 h2 fun v3 H3 μ3 kv S3 x3 he3 hs3 rk h3 => ?_
  split at h3
  · rename_i S4 hset
    exact ⟨μ3, S3, S4, ov, kv, v, hs3, ro.ext x3, rk, (rv.ext x2).ext x3, hset, fun H' x4 hs4 => h3 σ μ3 H' x4 (he3.ext x4) hs4⟩
  · exact h3.elim
theorem par_case (ok : SOk D LT k T q X Y) {d : Nat} {x y : Str} {px py pt p2 pos : Pos} {n n2 i j : Nat} {a b : Expr} {u v : IE} (h1 : plainLoc T.sc x = true) (h2 : plainLoc T.sc y = true) (hxy : (x == y) = false) (hl : px.line = py.line) (hf : foldedForSure 8 a = false) (hc : constantsAlone 8 a = false)
    (hi : ixOf x T.N = some i) (hj : ixOf y T.N = some j) (ha : trE T d a = some u) (hb : trE T d b = some v) : PS X (.Assign [.Tuple [.Name x px, .Name y py] n pt] (.Tuple [a, b] n2 p2) pos) (rdS X Y q D.G LT W (.par i j u v)) := by
  have sim := sim_all (D := D) (LT := LT) d ok.x
  have lx : X.env.scope.names.lookup x = some .local := by
    rw [plainLoc_eq, ← ok.sc] at h1
    simpa using h1
  have ly : X.env.scope.names.lookup y = some .local := by
    rw [plainLoc_eq, ← ok.sc] at h2
    simpa using h2
  have ii := ixOf_get hi
  have jj := ixOf_get hj
  rw [← ok.x.N] at ii jj
  have hij : i ≠ j := fun z => by
    subst z
    rw [ii] at jj
    cases jj
    simp at hxy
  have n1 := tr_noStar ha
  have n3 := tr_noStar hb
  refine (ps_par ok.x.calm ok.x.nd ii jj hij lx ly (pa_two (sim.e a u ha).1 (sim.e b v hb).1 n1 n3) (swapped_some ok.kind lx ly hxy hl n1 n3 hf hc) rfl).imp fun Z σ H ⟨μ, e, S, he, hs, h⟩ => ?_
  have h : PostF X Y Z μ H ((evE D.G LT u q e S).toF e fun x S => (evE D.G LT v q e S).toF e fun y S => if i < e.length ∧ j < e.length then .next ((e.set i (some x)).set j (some y)) S else .stuck) := h
  refine rdF_bind (f := evE D.G LT u q) he hs h fun v1 H1 μ1 w1 S1 x1 he1 hs1 r1 h1 => ?_
  refine rdF_bind (f := evE D.G LT v q) he1 hs1 h1 fun v2 H2 μ2 w2 S2 x2 he2 hs2 r2 h2 => ?_
  split at h2
  · exact ⟨v1, v2, rfl, h2 _ μ2 H2 .refl ((he2.set i (r1.ext x2)).set j r2) hs2⟩
  · exact h2.elim
theorem sim_st : ∀ (d : Nat), SOk D LT k T q X Y → (∀ (s : Stmt) (i : IS), trS T d s = some i → PS X s (rdS X Y q D.G LT W i)) ∧ (∀ (ss : List Stmt) (i : IB), trB T d ss = some i → PSs X ss (rdB X Y q D.G LT W i))
  | 0, ok => ⟨fun s i h => by (unfold trS at h; cases h), fun s i h => by (unfold trB at h; cases h)⟩
  | d + 1, ok => by
    obtain ⟨ih1, ih2⟩ := sim_st d ok
    have sim := sim_all (D := D) (LT := LT) d ok.x
    refine ⟨fun s i h => ?_, fun ss i h => ?_⟩
    · unfold trS at h
      split at h
      · -- x, y = a, b
        rename_i x px y py kt pt a b kv pv pos
        split at h
        · rename_i hl
          split at h
          · rename_i hh
            obtain ⟨n, hn, h⟩ := Option.bind_eq_some_iff.mp h
            obtain ⟨m, hm, h⟩ := Option.bind_eq_some_iff.mp h
            obtain ⟨u, hu, h⟩ := Option.bind_eq_some_iff.mp h
            obtain ⟨v, hv, rfl⟩ := Option.map_eq_some_iff.mp h
            exact par_case ok hl.1 hl.2 hh.1 hh.2.1 hh.2.2.1 hh.2.2.2 hn hm hu hv
          · cases h
        · rename_i hl
          obtain ⟨t, ht, h⟩ := Option.bind_eq_some_iff.mp h
          obtain ⟨v, hv, rfl⟩ := Option.map_eq_some_iff.mp h
          exact asg_case ok ht hv (swapped_none2 (by rw [ok.sc]; exact hl))
      · -- o[k] = e
        rename_i o kk p1 e pos
        obtain ⟨x, hx, h⟩ := Option.bind_eq_some_iff.mp h
        obtain ⟨y, hy, h⟩ := Option.bind_eq_some_iff.mp h
        obtain ⟨z, hz, rfl⟩ := Option.map_eq_some_iff.mp h
        exact sub_case ok hx hy hz
      · -- t = e
        rename_i t e pos _ _
        split at h
        · cases h
        · rename_i hh
          obtain ⟨x, hx, h⟩ := Option.bind_eq_some_iff.mp h
          obtain ⟨y, hy, rfl⟩ := Option.map_eq_some_iff.mp h
          exact asg_case ok hx hy (swapped_none hx hh)
      · -- return
        rename_i e pos
        obtain ⟨x, hx, rfl⟩ := Option.map_eq_some_iff.mp h
        refine (ps_ret (sim.e e x hx).1).imp fun Z σ H ⟨μ, e, S, he, hs, h⟩ => ?_
        have h : PostF X Y Z μ H ((evE D.G LT x q e S).toF e fun v S => .ret v S) := h
        exact rdF_bind (f := evE D.G LT x q) he hs h fun v1 H1 μ1 w1 S1 x1 he1 hs1 r1 h1 => h1 μ1 H1 v1 .refl hs1 r1
      · -- an expression
        rename_i e pos
        split at h
        · rename_i hn
          obtain ⟨x, hx, rfl⟩ := Option.map_eq_some_iff.mp h
          refine (ps_expr (sim.e e x hx).1 (sw_none hx hn)).imp fun Z σ H ⟨μ, e, S, he, hs, h⟩ => ?_
          have h : PostF X Y Z μ H ((evE D.G LT x q e S).toF e fun _ S => .next e S) := h
          exact rdF_bind (f := evE D.G LT x q) he hs h fun v1 H1 μ1 w1 S1 x1 he1 hs1 r1 h1 => h1 σ μ1 H1 .refl he1 hs1
        · cases h
      · -- if
        rename_i c a b pos
        obtain ⟨x, hx, h⟩ := Option.bind_eq_some_iff.mp h
        obtain ⟨y, hy, h⟩ := Option.bind_eq_some_iff.mp h
        obtain ⟨z, hz, rfl⟩ := Option.map_eq_some_iff.mp h
        refine (ps_if (sim.e c x hx).2 (ih2 a y hy) (ih2 b z hz)).imp fun Z σ H ⟨μ, e, S, he, hs, h⟩ => ?_
        have h : PostF X Y Z μ H ((asB (evE D.G LT x q e S)).toF e fun t S => if t = true then evB D.G LT W q y e S else evB D.G LT W q z e S) := h
        refine rdF_bind (f := fun e S => asB (evE D.G LT x q e S)) he hs h fun v1 H1 μ1 w1 S1 x1 he1 hs1 r1 h1 => ?_
        subst r1
        split at h1
        · rename_i ct
          rw [if_pos ct]
          exact ⟨μ1, e, S1, he1, hs1, h1⟩
        · rename_i ct
          rw [if_neg ct]
          exact ⟨μ1, e, S1, he1, hs1, h1⟩
      · -- while
        rename_i c b pos
        obtain ⟨x, hx, h⟩ := Option.bind_eq_some_iff.mp h
        obtain ⟨y, hy, rfl⟩ := Option.map_eq_some_iff.mp h
        exact while_case ok.po (sim.e c x hx).2 (ih2 b y hy)
      · -- for
        rename_i t it b pos
        obtain ⟨x, hx, h⟩ := Option.bind_eq_some_iff.mp h
        obtain ⟨y, hy, h⟩ := Option.bind_eq_some_iff.mp h
        split at h
        · cases h
        · rename_i hz
          obtain ⟨z, hz2, rfl⟩ := Option.map_eq_some_iff.mp h
          have hg := (pg_all (X := X) (Y := Y) ok.x.N ok.x.nd ok.x.calm ok.x.own d).1 t x hx
          refine for_case ok.po ok.x.calm (sim.i it y t hy fun ⟨a, b, e⟩ => ?_) hg (ih2 b z hz2) (trI_noSet hy)
          subst e
          cases x with
          | name n => exact absurd rfl hz
          | tup ts => exact tup_tg hx
      · -- raise
        rename_i x p1 p2 pos
        split at h
        · rename_i hgl
          obtain ⟨c, hcx, rfl⟩ := Option.map_eq_some_iff.mp h
          obtain ⟨C, bm, B, n, m, F, e1, e2, e3, e4, e5, e6⟩ := ok.x.md.cls c x (by rw [← ok.x.cls]; exact ixOf_get hcx)
          refine (ps_raise ok.x.calm ok.x.tk (pmk_own0 F e1 e2 e3 (raises_own e4 e5) (ok.x.gl x hgl) (plain_dbg (glo_plain hgl)).1)).imp fun Z σ H ⟨μ, e, S, he, hs, h⟩ => ?_
          have h : PostF X Y Z μ H (.err c e S) := h
          have z := h μ H .refl hs
          rw [ok.x.cv, e6] at z
          exact z
        · cases h
      · -- pass
        cases h
        exact ps_pass.imp fun Z σ H ⟨μ, e, S, he, hs, h⟩ => h σ μ H .refl he hs
      · cases h
    · cases ss with
      | nil =>
        unfold trB at h
        cases h
        exact pss_nil.imp fun Z σ H ⟨μ, e, S, he, hs, h⟩ => h σ μ H .refl he hs
      | cons s ss =>
        unfold trB at h
        obtain ⟨x, hx, h⟩ := Option.bind_eq_some_iff.mp h
        obtain ⟨y, hy, rfl⟩ := Option.map_eq_some_iff.mp h
        refine (pss_cons (ih1 s x hx) (ih2 ss y hy)).imp fun Z σ H ⟨μ, e, S, he, hs, h⟩ => ?_
        exact ⟨μ, e, S, he, hs, PostF.seq h⟩
end
end Ev
end

section
set_option Elab.async false
set_option linter.all false
set_option autoImplicit false
set_option maxRecDepth 100000
set_option maxHeartbeats 8000000
/-! EvFn: every def keeps the evaluator's word, at every level. -/
namespace Ev
open PySem PySem.Spec PyProof.Rows L2 RZ
/-- a def of the module as it stands -/
structure DefK (K : PySem.W.Frag) (mg : Str → Option Value) (x : Str) (st : Stmt) (N ps : List Str) (fa : Addr) (cd : Value) : Prop where
  ex : ∃ (oc : Value) (od an : Option Addr) (kV doc pm ct : Value) (osl : Array (Option Value)), Binds K (PySem.W.fnOf x x (defArgs st) (defBody st) (defScope st) .none kV doc pm an cd ct) ps [] ∧
    K.lookup fa = some ⟨oc, od, .func (PySem.W.fnOf x x (defArgs st) (defBody st) (defScope st) .none kV doc pm an cd ct), osl⟩
  mgf : mg x = some (.ref fa)
  kp : PySem.W.keepIn K (.ref fa) = true
  code : PySem.W.codeIn K cd x = true
  sc : FnScope N ps (defScope st)
section
variable {P : Program} {w : World} {K : PySem.W.Frag} {mg : Str → Option Value} {base : Heap} {D : Dt} {LT : Takers} {Tb : List (Addr × Str)} {W : Nat} {fns : List FnIR}
/-- a def whose text is translated -/
structure DefT (P : Program) (w : World) (K : PySem.W.Frag) (mg : Str → Option Value) (base : Heap) (D : Dt) (LT : Takers) (Tb : List (Addr × Str)) (x : Str) (d : FnIR) : Prop where
  ex : ∃ (st : Stmt) (N ps : List Str) (fa : Addr) (cd : Value) (tks : List Str) (fuel : Nat), DefK K mg x st N ps fa cd ∧ trB ⟨N, defScope st, D.fns, D.glb, D.cls, tks⟩ fuel (defBody st) = some d.body ∧ d.np = ps.length ∧ d.nn = N.length ∧
    ∀ (t : Nat) (y : Str), tks[t]? = some y → ∀ (k : Nat) (A : Around) (outer : List PySem.Env) (s : Shared) (H : Hp) (E : XK), Room (k + 2) (A.deeper (envOfC x (defScope st) s.heap.objs.size fa cd)) →
      LamFact (cxOf (L2.CX P w) P w K mg base N x (defScope st) fa cd A outer s H E) ⟨Tb, D.cv, E⟩ k y (LT t)
theorem lev_stuck {G : List Val} {n : Nat} (h : n < 3) {g : Bool} {i : Nat} {args : List Val} {S : Store} : lev G LT W fns n g i args S = .stuck := by
  match n, h with
  | 0, _ => rfl
  | 1, _ => rfl
  | 2, _ => rfl
/-- one def, the others being known at the levels below -/
theorem fn_one {i n : Nat} {g : Bool} {x : Str} {d : FnIR} {st : Stmt} {N ps : List Str} {fa : Addr} {cd oc dV kV doc pm ct : Value} {od an : Option Addr} {osl : Array (Option Value)} {tks : List Str} {fuel : Nat} (hd : fns[i]? = some d) (dk : DefK K mg x st N ps fa cd)
    (lk : K.lookup fa = some ⟨oc, od, .func (PySem.W.fnOf x x (defArgs st) (defBody st) (defScope st) dV kV doc pm an cd ct), osl⟩)
    (ht : trB ⟨N, defScope st, D.fns, D.glb, D.cls, tks⟩ fuel (defBody st) = some d.body) (hnp : d.np = ps.length) (hnn : d.nn = N.length)
    (hl : ∀ (t : Nat) (y : Str), tks[t]? = some y → ∀ (k : Nat) (A : Around) (outer : List PySem.Env) (s : Shared) (H : Hp) (E : XK), Room (k + 2) (A.deeper (envOfC x (defScope st) s.heap.objs.size fa cd)) →
      LamFact (cxOf (L2.CX P w) P w K mg base N x (defScope st) fa cd A outer s H E) ⟨Tb, D.cv, E⟩ k y (LT t)) (md : Md K mg D)
    (IH : ∀ m, m < n → ∀ g, Fns P w K mg base D Tb m g (lev D.G LT W fns m g)) : FnG P w K mg base n g fa (PySem.W.fnOf x x (defArgs st) (defBody st) (defScope st) dV kV doc pm an cd ct) ps (spOf P w K Tb D.cv (lev D.G LT W fns n g i)) := by
  by_cases h3 : n < 3
  · have no : ∀ vs H Q E, ¬ spOf P w K Tb D.cv (lev D.G LT W fns n g i) vs H Q E := fun vs H Q E ⟨μ, S, args, h1, h2, h3'⟩ => by
      rw [lev_stuck h3] at h3'
      exact h3'
    exact ⟨fun vs H Q E h => absurd h (no vs H Q E), fun A outer s H args us vs Q E _ _ _ _ _ h => absurd h (no vs H Q E)⟩
  · obtain ⟨k, rfl⟩ : ∃ k, n = k + 3 := ⟨n - 3, by omega⟩
    have e1 : ∀ args S, lev D.G LT W fns (k + 3) g i args S = runFn D.G LT W ⟨lev D.G LT W fns (k + 2) g, lev D.G LT W fns k false, g⟩ d args S := fun args S => by
      show (match fns[i]? with | some d => runFn D.G LT W ⟨lev D.G LT W fns (k + 2) g, lev D.G LT W fns k false, g⟩ d args S | none => .stuck) = _
      rw [hd]
    have F2 := IH (k + 2) (by omega) g
    have F0 := IH k (by omega) false
    have hlen : ∀ {args : List Val} {S : Store} {E : XK} {μ : List Addr} {H : Hp} {Q : VK}, Post P w K ⟨Tb, D.cv, E⟩ (rV K) μ H (lev D.G LT W fns (k + 3) g i args S) Q → args.length = ps.length := fun {args S E μ H Q} h => by
      rw [e1] at h
      unfold runFn at h
      split at h
      · rename_i z
        rw [z, hnp]
      · exact h.elim
    refine ⟨fun vs H Q E ⟨μ, S, args, h1, h2, h3'⟩ => by rw [← h2.length]; exact hlen h3', fun A outer s H args us vs Q E hr hg e0 hbt hv hs => ?_⟩
    obtain ⟨μ, S, as, hst, has, hp⟩ := hs
    have hal := hlen hp
    refine LamX.run_ofS (N := N) lk dk.code dk.sc hr e0 hbt hv (by rw [← has.length]; exact hal) fun hr2 => ?_
    rw [e1] at hp
    unfold runFn at hp
    rw [if_pos (by rw [hal, hnp])] at hp
    have xok : XOk D LT (k + 2) ⟨N, defScope st, D.fns, D.glb, D.cls, tks⟩ ⟨lev D.G LT W fns (k + 2) g, lev D.G LT W fns k false, g⟩ (cxOf (L2.CX P w) P w K mg base N x (defScope st) fa cd A outer s H E) ⟨Tb, D.cv, E⟩ :=
      ⟨rfl, rfl, rfl, rfl, rfl, dk.sc.nd, fun y hy => loc_vis hy, fun y hy => ⟨own_loc hy, .inl rfl⟩, fun y hy => glo_look hy, fun y hy => hy, rfl, takes_of rfl rfl rfl rfl, hr2, fun z => hg z, md, F2, fun t y hy => ⟨k, F0, hl t y hy k A outer s H E hr2⟩⟩
    have sok : SOk D LT (k + 2) ⟨N, defScope st, D.fns, D.glb, D.cls, tks⟩ ⟨lev D.G LT W fns (k + 2) g, lev D.G LT W fns k false, g⟩ (cxOf (L2.CX P w) P w K mg base N x (defScope st) fa cd A outer s H E) ⟨Tb, D.cv, E⟩ :=
      ⟨xok, rfl, dk.sc.kind, passes_of rfl⟩
    refine ⟨_, (sim_st (W := W) fuel sok).2 _ _ ht, μ, as.map some ++ List.replicate (d.nn - as.length) none, S, ?_, hst, ?_⟩
    · exact EnvR.start has hnn.symm
    · cases eb : evB D.G LT W ⟨lev D.G LT W fns (k + 2) g, lev D.G LT W fns k false, g⟩ d.body (as.map some ++ List.replicate (d.nn - as.length) none) S with
      | next e S => rw [eb] at hp; exact fun σ' μ' H' x' he' hs' => hp μ' H' .non x' hs' .non
      | ret v S => rw [eb] at hp; exact fun μ' H' y x' hs' rv => hp μ' H' y x' hs' rv
      | brk e S => rw [eb] at hp; exact hp.elim
      | cont e S => rw [eb] at hp; exact hp.elim
      | err c e S => rw [eb] at hp; exact fun μ' H' x' hs' => hp μ' H' x' hs'
      | stuck => rw [eb] at hp; exact hp.elim
theorem fns_all (hD : ∀ (i : Nat) (x : Str), D.fns[i]? = some x → ∃ d, fns[i]? = some d ∧ DefT P w K mg base D LT Tb x d) (md : Md K mg D) : ∀ (n : Nat) (g : Bool), Fns P w K mg base D Tb n g (lev D.G LT W fns n g) := by
  intro n
  induction n using Nat.strongRecOn with
  | ind n ih =>
    intro g
    refine ⟨fun i x hx => ?_⟩
    obtain ⟨d, hd, hT⟩ := hD i x hx
    obtain ⟨st, N, ps, fa, cd, tks, fuel, dk, ht, hnp, hnn, hl⟩ := hT.ex
    obtain ⟨oc, od, an, kV, doc, pm, ct, osl, hb, lk⟩ := dk.ex
    exact ⟨fa, _, ps, dk.mgf, dk.kp, hb, fn_one hd dk lk ht hnp hnn hl md ih⟩
end
end Ev
end

section
set_option Elab.async false
set_option linter.all false
set_option autoImplicit false
set_option maxRecDepth 100000
set_option maxHeartbeats 8000000
/-! EvEnd: the row's end. -/
namespace Ev
open PySem PySem.Spec PyProof.Rows L2 LamX
section
variable {P : Program} {w : World} {K : PySem.W.Frag} {mg mb : Str → Option Value} {k : Nat} {fa sa : Addr} {tabs : List (Addr × Addr)} {fd : FuncData} {pn : Str} {sp : Sp} {st : Shared} {vals : List Value} {nums : List Int}
abbrev atTab (tabs : List (Addr × Addr)) : List Addr := tabs.map (·.2)
/-- what is known of the state in which the law is called -/
structure Entry (P : Program) (w : World) (K : PySem.W.Frag) (mg mb : Str → Option Value) (tabs : List (Addr × Addr)) (sa : Addr) (vals : List Value) (st : Shared) : Prop where
  kin : K.In st.heap
  g : st.heap.Ns mainGlobals mg
  b : st.heap.Ns builtinsNs mb
  bb : ∀ x : Str, x ≠ "__name__" → mb x = bootBuiltins x
  lim : st.heap.NoLimit
  gens : st.gens = #[]
  tab : ∀ q ∈ tabs, st.heap.get? q.2 = some { cls := .none, data := .fields #[] }
  noK : ∀ q ∈ tabs, K.lookup q.2 = none
  code : ∀ q ∈ tabs, PySem.W.CodeHd st.heap q.1 q.2
  bm : ∃ (ba : Addr) (bo : Obj), mg "__builtins__" = some (.ref ba) ∧ ba ≠ builtinsNs ∧ st.heap.get? ba = some bo ∧ bo.cls = .type "module" ∧ bo.dict = some builtinsNs ∧ bo.data = .plain
  script : st.heap.get? sa = some { cls := .type "list", data := .seq vals.toArray }
/-- the abstract heap at the entry -/
structure First (K : PySem.W.Frag) (tabs : List (Addr × Addr)) (sa : Addr) (xs : List V) (H : Hp) : Prop where
  tbl : ∀ q ∈ tabs, H q.2 = some (.tbl #[])
  only : ∀ z, H z = none ∨ z ∈ atTab tabs ∨ ∃ o ys, H z = some (.frz o (.lst ys))
  lst : LstS K H sa xs
  dom : ∀ z, H z ≠ none → z = sa ∨ z ∈ atTab tabs
  noK : H sa ≠ none → K.lookup sa = none
theorem Entry.isTab (N : Entry P w K mg mb tabs sa vals st) {z : Addr} (hz : z ∈ atTab tabs) : st.heap.get? z = some { cls := .none, data := .fields #[] } := by
  obtain ⟨q, hq, rfl⟩ := List.mem_map.mp hz
  exact N.tab q hq
theorem Entry.apart (N : Entry P w K mg mb tabs sa vals st) : sa ∉ atTab tabs := fun z => by
  have h1 := N.isTab z
  rw [N.script] at h1
  cases h1
section
variable {H : Hp} {xs : List V}
theorem Entry.off (N : Entry P w K mg mb tabs sa vals st) (A : First K tabs sa xs H) {z : Addr} {o : Obj} (e : st.heap.get? z = some o) (h1 : ∀ l n, o.data ≠ .seq l n) (h2 : o.data ≠ .fields #[]) : H z = none := by
  refine Classical.byContradiction fun hz => ?_
  rcases A.dom z hz with rfl | hm
  · rw [N.script] at e
    cases e
    exact h1 _ _ rfl
  · rw [N.isTab hm] at e
    cases e
    exact h2 rfl
theorem Entry.offD (N : Entry P w K mg mb tabs sa vals st) (A : First K tabs sa xs H) {z : Addr} {o : Obj} {es : Array DictEntry} {ep : Nat} (e : st.heap.get? z = some o) (d : o.data = .dict es ep) : H z = none :=
  N.off A e (fun l n q => by (rw [d] at q; cases q)) fun q => by (rw [d] at q; cases q)
theorem Entry.ns (N : Entry P w K mg mb tabs sa vals st) (A : First K tabs sa xs H) {z : Addr} {m : Str → Option Value} (n : st.heap.Ns z m) : (hidT st.heap H).Ns z m := by
  obtain ⟨o, es, ep, e, d, r⟩ := n
  exact ⟨o, es, ep, hidT_get e (N.offD A e d), d, r⟩
theorem Entry.kb (N : Entry P w K mg mb tabs sa vals st) (A : First K tabs sa xs H) : K.In (hidT st.heap H) := fun z o e => by
  refine hidT_get (N.kin z o e) (Classical.byContradiction fun hz => ?_)
  rcases A.dom z hz with rfl | hm
  · rw [A.noK hz] at e
    cases e
  · obtain ⟨q, hq, rfl⟩ := List.mem_map.mp hm
    rw [N.noK q hq] at e
    cases e
theorem Entry.mod (N : Entry P w K mg mb tabs sa vals st) (A : First K tabs sa xs H) : L2.Mod K mg (hidT st.heap H) := by
  obtain ⟨mc, h1, h2⟩ := N.lim
  exact ⟨N.kb A, N.ns A N.g, ⟨mb, N.ns A N.b, N.bb⟩, mc, N.ns A h1, h2⟩
theorem Entry.tabB (N : Entry P w K mg mb tabs sa vals st) (A : First K tabs sa xs H) : ∀ q ∈ tabs, TabB (hidT st.heap H) mg q.1 q.2 := fun q hq => by
  have ht := N.tab q hq
  have ng : mainGlobals ≠ q.2 := fun z => by
    obtain ⟨o, es, ep, e, d, _⟩ := N.g
    rw [z, ht] at e
    cases e
    cases d
  refine ⟨?_, ?_, ng⟩
  · obtain ⟨o, us, file, tf, flags, tg, inF, text, tt, e1, r1, r2, r3, r⟩ := N.code q hq
    refine ⟨o, us, file, tf, flags, tg, inF, text, tt, hidT_get e1 (N.off A e1 (fun l n z => by (rw [r2] at z; cases z)) fun z => ?_), r1, r2, r3, r⟩
    rw [r2] at z
    cases z
    simp at r3
  · obtain ⟨ba, bo, b1, b2, b3, b4, b5, b6⟩ := N.bm
    have n1 : ba ≠ mainGlobals := fun z => by
      obtain ⟨o, es, ep, e, d, _⟩ := N.g
      rw [z, e] at b3
      cases b3
      rw [d] at b6
      cases b6
    have n2 : ba ≠ q.2 := fun z => by
      rw [z, ht] at b3
      cases b3
      cases b6
    exact ⟨ba, bo, b1, b2, n1, n2, hidT_get b3 (N.off A b3 (fun l n z => by (rw [b6] at z; cases z)) fun z => by (rw [b6] at z; cases z)), b4, b5, b6⟩
/-- the call, from an abstract heap of the entry -/
theorem Entry.call (N : Entry P w K mg mb tabs sa vals st) (A : First K tabs sa xs H) (hok : HOk P w H st.heap) (hr : Room k callerA) (hbind : BindsTo st fd ⟨[.ref sa], []⟩ [(pn, .ref sa)])
    (F : ∀ base : Heap, K.In base → base.Ns mainGlobals mg → (∀ q ∈ tabs, TabB base mg q.1 q.2) → FnG P w K mg base k true fa fd [pn] sp) (hsp : sp [.ref sa] H (fun v _ => v = .bl true) fun _ _ _ => False) :
    codeAny (model P w) callerA (.call (.ref fa) ⟨[.ref sa], []⟩) (fun r s2 => r = .ok (.ret (.bool true)) ∧ OldK st.heap s2.heap ∧ s2.os = st.os ∧ AllBare s2.gens) st := by
  have en : Env0 P w K mg (hidT st.heap H) callerA [] st H := ⟨rfl, N.mod A, fun z o e => of_hidT e, Nat.le_of_eq (hidT_size _ _), trivial, fun z hz => absurd (show z ∈ ([] : List Addr) from hz) (by simp), hok, .of_eq N.gens⟩
  have run := (F _ (N.kb A) (N.ns A N.g) (N.tabB A)).run callerA [] st H ⟨[.ref sa], []⟩ [.ref sa] [.ref sa] _ _ hr (fun _ => rfl) en hbind (.cons rfl .nil) hsp
  refine codeAny_mono run fun r s2 h => ?_
  cases r with
  | error e =>
    obtain ⟨_, _, _, _, _, _, _, _, _, _, _, _, no⟩ := (show L2.CX P w [] H st (fun _ _ _ => False) e s2 from h)
    exact no.elim
  | ok fl =>
    cases fl with
    | next => exact False.elim h
    | brk => exact False.elim h
    | cont => exact False.elim h
    | ret u =>
      obtain ⟨v, H2, os, bare, un, hok2, rv, q⟩ := h
      have q : v = .bl true := q
      subst q
      obtain rfl : u = Value.bool true := rv
      have keep : ∀ z o, z ∉ atTab tabs → st.heap.get? z = some o → s2.heap.get? z = some o := fun z o nz e => by
        cases hz : H z with
        | none => exact un.keep z o e hz (fun m => absurd (show z ∈ ([] : List Addr) from m) (by simp)) (by simp)
        | some u =>
          rcases A.only z with y | y | ⟨ob, ys, y⟩
          · rw [hz] at y
            cases y
          · exact absurd y nz
          · obtain ⟨e1, _⟩ := hok z _ y
            obtain ⟨e2, _⟩ := hok2 z _ (un.frzs z ob _ y)
            rw [e] at e1
            cases e1
            exact e2
      have more : ∀ q ∈ tabs, ∃ l : Array Value, s2.heap.get? q.2 = some { cls := .none, data := .fields l } := fun q hq => by
        obtain ⟨l, z⟩ := un.tbls q.2 #[] (A.tbl q hq)
        exact ⟨_, hok2 q.2 _ z⟩
      refine ⟨rfl, ⟨fun z o e => ?_, fun z o e => ?_⟩, os, bare⟩
      · by_cases hz : z ∈ atTab tabs
        · obtain ⟨q, hq, rfl⟩ := List.mem_map.mp hz
          obtain ⟨l, hl⟩ := more q hq
          rw [N.tab q hq] at e
          cases e
          exact .inr (.inl ⟨((N.code q hq).tab (N.tab q hq)).isCodeTable, rfl, #[], l, rfl, by rw [Array.empty_append]; exact hl⟩)
        · exact .inl (keep z o hz e)
      · by_cases hz : z ∈ atTab tabs
        · obtain ⟨q, hq, rfl⟩ := List.mem_map.mp hz
          obtain ⟨l, hl⟩ := more q hq
          exact ⟨_, hl⟩
        · exact ⟨o, keep z o hz e⟩
end
/-- an abstract heap of the entry -/
theorem Entry.first (N : Entry P w K mg mb tabs sa vals st) (hi : IntsAre vals nums) (hl : nums.length ≤ sizeLine) : ∃ H, First K tabs sa (nums.map V.int) H ∧ HOk P w H st.heap := by
  have rv := vals_ints hi
  have na := N.apart
  have tb : ∀ q ∈ tabs, q.2 ∈ atTab tabs := fun q hq => List.mem_map.mpr ⟨q, hq, rfl⟩
  cases hk : K.lookup sa with
  | some o =>
    have e := N.kin sa o hk
    rw [N.script] at e
    cases e
    obtain ⟨H, hH⟩ : ∃ H : Hp, H = fun z => if z ∈ atTab tabs then some (HO.tbl #[]) else none := ⟨_, rfl⟩
    have yes : ∀ z, z ∈ atTab tabs → H z = some (.tbl #[]) := fun z h => by rw [hH]; exact if_pos h
    have not : ∀ z, z ∉ atTab tabs → H z = none := fun z h => by rw [hH]; exact if_neg h
    refine ⟨H, ⟨fun q hq => yes _ (tb q hq), fun z => ?_, .inr fun H' => .inr ⟨_, vals.toArray, _, hk, rfl, rfl, rfl, by rw [List.size_toArray, hi.length]; exact hl, by simpa using rv⟩, fun z h => ?_, fun h => absurd (not sa na) h⟩, fun z u e => ?_⟩
    · by_cases h : z ∈ atTab tabs
      · exact .inr (.inl h)
      · exact .inl (not z h)
    · exact .inr (Classical.byContradiction fun q => h (not z q))
    · by_cases h : z ∈ atTab tabs
      · rw [yes z h] at e
        cases e
        exact N.isTab h
      · rw [not z h] at e
        cases e
  | none =>
    obtain ⟨H, hH⟩ : ∃ H : Hp, H = fun z => if z = sa then some (HO.frz { cls := .type "list", data := .seq vals.toArray } (.lst (nums.map V.int))) else if z ∈ atTab tabs then some (HO.tbl #[]) else none := ⟨_, rfl⟩
    have here : H sa = some (.frz { cls := .type "list", data := .seq vals.toArray } (.lst (nums.map V.int))) := by rw [hH]; exact if_pos rfl
    have yes : ∀ z, z ∈ atTab tabs → H z = some (.tbl #[]) := fun z h => by
      rw [hH]
      exact (if_neg (fun q : z = sa => na (by rw [← q]; exact h))).trans (if_pos h)
    have not : ∀ z, z ≠ sa → z ∉ atTab tabs → H z = none := fun z h1 h2 => by
      rw [hH]
      exact (if_neg h1).trans (if_neg h2)
    refine ⟨H, ⟨fun q hq => yes _ (tb q hq), fun z => ?_, .inl ⟨_, here⟩, fun z h => ?_, fun _ => hk⟩, fun z u e => ?_⟩
    · by_cases h1 : z = sa
      · subst h1
        exact .inr (.inr ⟨_, _, here⟩)
      · by_cases h2 : z ∈ atTab tabs
        · exact .inr (.inl h2)
        · exact .inl (not z h1 h2)
    · by_cases h1 : z = sa
      · exact .inl h1
      · exact .inr (Classical.byContradiction fun q => h (not z h1 q))
    · by_cases h1 : z = sa
      · subst h1
        rw [here] at e
        cases e
        exact ⟨N.script, by rw [List.length_map]; exact hl, vals, _, rv, N.script⟩
      · by_cases h2 : z ∈ atTab tabs
        · rw [yes z h2] at e
          cases e
          exact N.isTab h2
        · rw [not z h1 h2] at e
          cases e
end
/-- the law's promise at the head's heap -/
def LawG (l : PySem.W.OpenLaw) (w : World) (K : PySem.W.Frag) (k n : Nat) (x : Str) (mg : Str → Option Value) (fa : Addr) (h : Heap) : Prop :=
  ∃ (fd : FuncData) (tabs : List (Addr × Addr)) (sp : Sp), (∀ q ∈ tabs, h.get? q.2 = some { cls := .none, data := .fields #[] }) ∧ (∀ q ∈ tabs, K.lookup q.2 = none) ∧ (∀ q ∈ tabs, PySem.W.CodeHd h q.1 q.2) ∧ (∀ (s : Shared) (u : Value), BindsTo s fd ⟨[u], []⟩ [(x, u)]) ∧
    (∀ (H : Hp) (a : Addr) (ns : List Int), ns.length ≤ n → (∀ q ∈ tabs, H q.2 = some (.tbl #[])) → LstS K H a (ns.map V.int) → sp [.ref a] H (fun v _ => v = .bl true) fun _ _ _ => False) ∧
    ∀ base : Heap, K.In base → base.Ns mainGlobals mg → (∀ q ∈ tabs, TabB base mg q.1 q.2) → FnG l.prog w K mg base k true fa fd [x] sp
/-- the law's own def keeps an empty table of code objects -/
def OwnT (K : PySem.W.Frag) (fa : Addr) (h : Heap) : Prop := ∀ (c T : Addr) (o : Obj) (fd : FuncData) (k : Value) (dd : Option Addr) (us : Array Value) (sl : Array (Option Value)),
  K.lookup fa = some o → o.data = .func fd → fd.code = .ref c → K.lookup c = some ⟨k, dd, .fields us, sl⟩ → us[11]? = some (.ref T) → h.get? T = some { cls := .none, data := .fields #[] }
theorem walk_ofG {l : PySem.W.OpenLaw} {n k : Nat} {q : Program} {loose : List Str} {XP : (Str → Option Value) → Heap → Prop} {YP : World → Heap → Prop} {d : DefRec} {K : Params → PySem.W.Frag} {x : Str}
    (hn : l.most = some n) (hn2 : n ≤ sizeLine) (hdf : d.params.defaults = []) (hr : Room k callerA) (hrec : ((recsOf q).any fun r => r.name == d.name) = true) (hY : ∀ (w : World) (h : Heap), YP w h → (K w.params).In h)
    (F : ∀ (w : World) (mg : Str → Option Value) (fa : Addr) (h : Heap), YP w h → (K w.params).In h → h.Ns mainGlobals mg → mg d.name = some (.ref fa) → OwnT (K w.params) fa h → LawG l w (K w.params) k n x mg fa h) :
    PySem.W.WalkO q loose XP YP l.row.toRowW d [] (fun f vs => PySem.call f vs) := by
  refine Att.attach_callB hn hdf fun w s0 s1 mg mb fa o pm cd doc a vs ns G Y _ _ _ hmg hobj hints hlen _ hg => ?_
  have hK := hY w _ Y
  have own : OwnT (K w.params) fa s1.heap := fun c T ob fdt kc dd us sl y1 y2 y3 y4 y5 => by
    obtain ⟨r, hr1, hr2⟩ := List.any_eq_true.mp hrec
    obtain ⟨a2, o2, fd2, c2, T2, x1, x2, x3, x4, _, ⟨oc, uc, x6, _, x8, x9⟩, x10⟩ := G.T.tab r hr1
    rw [beq_iff_eq.mp hr2, hmg] at x1
    cases x1
    rw [hK _ _ y1] at x2
    cases x2
    rw [y2] at x3
    cases x3
    rw [y3] at x4
    cases x4
    rw [hK _ _ y4] at x6
    cases x6
    cases x8
    rw [y5] at x9
    cases x9
    exact x10
  obtain ⟨fd, tabs, sp, hT, nT, C, hb, hsp, hF⟩ := F w mg fa _ Y hK G.T.g hmg own
  have N : Entry l.prog w (K w.params) mg mb tabs a vs s1 := ⟨hK, G.T.g, G.T.b, G.T.builtins, G.T.nolimit, hg, hT, nT, C, G.T.bmain, hobj⟩
  obtain ⟨H, A, hok⟩ := N.first hints (Nat.le_trans hlen hn2)
  exact N.call A hok hr (hb s1 (.ref a)) hF (hsp H a ns hlen A.tbl A.lst)
end Ev
end

section
set_option Elab.async false
set_option linter.all false
set_option autoImplicit false
set_option maxRecDepth 100000
set_option maxHeartbeats 8000000
/-! EvWord: the def that calls what it is given and tells the error's word. -/
namespace Ev
open PySem PySem.Spec PyProof.Rows L2 LamX
def Grow (H H' : Hp) : Prop := ∀ b o, H b = some o → H' b = some o
theorem Grow.refl (H : Hp) : Grow H H := fun _ _ h => h
theorem Grow.trans {H H1 H2 : Hp} (a : Grow H H1) (b : Grow H1 H2) : Grow H H2 := fun x o h => b x o (a x o h)
theorem Grow.new {H : Hp} {p : Addr} {o : HO} (hp : H p = none) : Grow H (upd H p o) := fun b u e => by rw [upd_ne (ne_of_none e hp)]; exact e
theorem Grow.ext {K : PySem.W.Frag} {μ : List Addr} {H H' : Hp} (g : Grow H H') : Ext K μ H μ H' :=
  ⟨fun _ _ h => h, fun a xs h => by
    rcases h with ⟨o, h, d⟩ | h
    · exact .inl ⟨o, g _ _ h, d⟩
    · exact .inr h, fun a xs h => by
    rcases h with ⟨o, h⟩ | h
    · exact .inl ⟨o, g _ _ h⟩
    · exact .inr h, fun a o h _ _ => g _ _ h, fun _ h => .inl h⟩
theorem StR.grow {P : Program} {w : World} {K : PySem.W.Frag} {T : List (Addr × Str)} {μ : List Addr} {H H' : Hp} {S : Store} (s : StR P w K T μ H S) (g : Grow H H') : StR P w K T μ H' S :=
  ⟨s.len, fun n c h => let ⟨a, h1, h2⟩ := s.cel n c h; ⟨a, h1, CR.keep h2 (g.ext (μ := μ)).v fun o e _ => g _ _ e⟩, s.nd, s.tabs.ext g⟩
section
variable {X : Cx}
/-- xs.count(y), flat items -/
def rCntF (K : PySem.W.Frag) : V → List V → Hp → VK → Prop := fun x xs H Q => ∃ (a : Addr) (ys : List V) (y : V), x = .ref a ∧ xs = [y] ∧ SqL K H a ys ∧ flatV y = true ∧ ys.all flatV = true ∧ Q (.int (ys.countP (fun z => eqV z y) : Nat)) H
theorem count_rel {y : V} : ∀ {ys : List V} {us : List Value}, Vals ys us → ys.all flatV = true → us.countP (eqU y) = ys.countP fun z => eqV z y
  | [], _, r, _ => by cases r; rfl
  | z :: ys, _, r, f => by
    cases r with
    | cons r rs =>
      rw [List.all_cons, Bool.and_eq_true] at f
      rw [List.countP_cons, List.countP_cons, count_rel rs f.2, eqU_of r f.1]
theorem mt_countF : MtR X "list.count" (rCntF X.K) := by
  intro pins s σ H x xs v us Q I rx rxs h
  obtain ⟨a, ys, y, rfl, rfl, hs, fy, fys, q⟩ := h
  cases rx
  obtain ⟨u, rfl, ry⟩ := rxs.one
  obtain ⟨its, rv, ⟨⟨cls, dd, data, sl⟩, n, ho, hc, hdn, hd⟩, hlen⟩ := I.list hs
  simp only at hc hd
  subst hc hd
  refine call_meets PySem.F.slot_list_count ⟨_, ho, rfl⟩ PySem.F.entry_list_count (PySem.F.args_list_count_2 _ _) (SeqAt.list_countAt a its.toArray n dd sl u (eqU y)) ⟨ho, fun z hz => mem_eqAt ry fy rv fys z (by simpa using hz), ?_⟩
  refine ⟨.int (ys.countP (fun z => eqV z y) : Nat), H, I.tok _, ⟨s.toks, ?_⟩, q⟩
  rw [← count_rel rv fys]
def wordB (p q : Bool) : Str := if (p && !q) = true then "chances" else if (q && !p) = true then "factor" else "odd"
/-- flags = [isinstance(error, A), isinstance(error, B)]; return ['chances', 'factor'][flags.index(True)] if flags.count(True) == 1 else 'odd' -/
theorem word_suite {N : List Str} (hN : X.N = N) (nd : X.N.Nodup) {ie fe : Nat} {er fl ca cb : Str} {a : Addr} {xa xb : Addr} {p q : Bool} {rr : List V → Hp → VK → Prop}
    (n1 : N[ie]? = some er) (n2 : N[fe]? = some fl) (ne : ie ≠ fe) (v1 : Vis X.env.scope er) (v2 : Loc X.env.scope fl) (v3 : X.env.scope.names.lookup fl = some .local) (d1 : (er == ("__debug__" : Str)) = false) (d2 : (er == ("__classdict__" : Str)) = false) (d3 : (fl == ("__debug__" : Str)) = false) (d4 : (fl == ("__classdict__" : Str)) = false)
    (g0 : Gl X "isinstance") (m0 : X.mg "isinstance" = none) (ga : Gl X ca) (ma : X.mg ca = some (.ref xa)) (da : (ca == ("__debug__" : Str)) = false) (gb : Gl X cb) (mb : X.mg cb = some (.ref xb)) (db : (cb == ("__debug__" : Str)) = false)
    (hc : CallR X (.builtin "isinstance") rr) (ra : ∀ H Q, Q (.bl p) H → rr [.ref a, .ref xa] H Q) (rb : ∀ H Q, Q (.bl q) H → rr [.ref a, .ref xb] H Q)
    (T : List (Addr × Str))
    {p1 p2 p3 p4 p5 p6 p7 p8 p9 pa pb pc pd pe pf pg ph pi pj pk pl pm pn po pq pr ps pt : Pos} {j1 j2 j3 j4 j5 j6 : Nat} (hl1 : (pc.endLine == pe.line) = true) (hl2 : (pj.endLine == pl.line) = true) :
    PSs X [.Assign [.Name fl p1] (.List [.Call (.Name "isinstance" p2) [.Name er p3, .Name ca p4] [] p5, .Call (.Name "isinstance" p6) [.Name er p7, .Name cb p8] [] p9] pa) pb,
      .Return (some (.IfExp (.Compare (.Call (.Attribute (.Name fl pd) "count" pc) [.Constant (.bool true) j1 pm] [] pe) [.Eq] [.Constant (.int 1) j2 pf] pg) (.Subscript (.List [.Constant (.str "chances") j3 ph, .Constant (.str "factor") j4 pi] pn) (.Call (.Attribute (.Name fl pk) "index" pj) [.Constant (.bool true) j5 po] [] pl) pq) (.Constant (.str "odd") j6 pr) ps)) pt]
      (fun D σ H => fe < σ.length ∧ σ[ie]? = some (some (.ref a)) ∧ ¬ (p = true ∧ q = true) ∧ ∀ H', Grow H H' → D.rt (.str (wordB p q)) H') := by
  have pv : PE X (.Name er p3) (tVar ie) := pe_var (by rw [hN]; exact n1) v1 d1 d2
  have fv : ∀ {pp : Pos}, PE X (.Name fl pp) (tVar fe) := fun {pp} => pe_var (by rw [hN]; exact n2) (v2.elim .inl fun z => .inr (.inl z)) d3 d4
  have isA : PE X (.Call (.Name "isinstance" p2) [.Name er p3, .Name ca p4] [] p5) _ := pe_callB hc g0 m0 (by decide +kernel) (pa_cons pv (pa_cons (pe_glob (v := .ref xa) ga ma rfl da) pa_nil))
  have isB : PE X (.Call (.Name "isinstance" p6) [.Name er p7, .Name cb p8] [] p9) _ := pe_callB hc g0 m0 (by decide +kernel) (pa_cons (pe_var (pos := p7) (by rw [hN]; exact n1) v1 d1 d2) (pa_cons (pe_glob (v := .ref xb) gb mb rfl db) pa_nil))
  have cnt : PE X (.Call (.Attribute (.Name fl pd) "count" pc) [.Constant (.bool true) j1 pm] [] pe) _ := pe_mG (ty := tyLst X T) (T := "list") ty_lst PySem.F.plainAttrs_list PySem.F.slot_list_count PySem.F.type_list_count mt_countF fv (pa_cons pe_bl pa_nil) rfl rfl hl1
  have idx : PE X (.Call (.Attribute (.Name fl pk) "index" pj) [.Constant (.bool true) j5 po] [] pl) _ := pe_mG (ty := tyLst X T) (T := "list") ty_lst PySem.F.plainAttrs_list PySem.F.slot_list_index PySem.F.type_list_index mt_index fv (pa_cons pe_bl pa_nil) rfl rfl hl2
  have two : PE X (.List [.Constant (.str "chances") j3 ph, .Constant (.str "factor") j4 pi] pn) _ := pe_lst (pa_cons pe_str (pa_cons pe_str pa_nil))
  refine (pss_cons (ps_set nd (i := fe) (by rw [hN]; exact n2) v2 (pe_lst (pa_cons isA (pa_cons isB pa_nil))) rfl (.inr v3)) (pss_one (ps_ret (pe_ifExp (pt_cmp (pc_eqI cnt pe_int)) (pe_ix ix_list two idx fun _ _ => rfl) pe_str)))).imp fun D σ H ⟨hl, hs, npq, h⟩ => ?_
  refine ⟨.ref a, hs, ra _ _ ⟨.ref a, hs, rb _ _ ⟨(by show 2 ≤ sizeLine; rw [sizeLine_eq]; omega), fun r hr => ?_⟩⟩⟩
  have g1 : Grow H (upd H r (.lst [.bl p, .bl q])) := .new hr
  have at_ : (σ.set fe (some (.ref r)))[fe]? = some (some (.ref r)) := List.getElem?_set_self hl
  have lst : SqL X.K (upd H r (.lst [.bl p, .bl q])) r [.bl p, .bl q] := SqL.of upd_same
  refine ⟨.ref r, at_, ⟨r, _, rfl, upd_same⟩, r, _, .bl true, rfl, rfl, lst, rfl, rfl, _, _, rfl, rfl, _, rfl, ?_⟩
  cases p <;> cases q
  · exact h _ g1
  · refine ⟨(by show 2 ≤ sizeLine; rw [sizeLine_eq]; omega), fun r2 hr2 => ?_⟩
    have g2 : Grow H (upd (upd H r (.lst [.bl false, .bl true])) r2 (.lst [.str "chances", .str "factor"])) := g1.trans (.new hr2)
    refine ⟨.ref r, at_, ⟨r, _, rfl, (Grow.new hr2) _ _ upd_same⟩, r, _, .bl true, 1, .bl true, rfl, rfl, SqL.of ((Grow.new hr2) _ _ upd_same), rfl, rfl, rfl, rfl, fun m z hm hz => ?_, r2, _, _, _, rfl, rfl, SqL.of upd_same, rfl, h _ g2⟩
    have : m = 0 := by omega
    subst this
    cases hz
    rfl
  · refine ⟨(by show 2 ≤ sizeLine; rw [sizeLine_eq]; omega), fun r2 hr2 => ?_⟩
    have g2 : Grow H (upd (upd H r (.lst [.bl true, .bl false])) r2 (.lst [.str "chances", .str "factor"])) := g1.trans (.new hr2)
    exact ⟨.ref r, at_, ⟨r, _, rfl, (Grow.new hr2) _ _ upd_same⟩, r, _, .bl true, 0, .bl true, rfl, rfl, SqL.of ((Grow.new hr2) _ _ upd_same), rfl, rfl, rfl, rfl, fun m z hm hz => absurd hm (Nat.not_lt_zero m), r2, _, _, _, rfl, rfl, SqL.of upd_same, rfl, h _ g2⟩
  · exact absurd ⟨rfl, rfl⟩ npq
end
section
variable {X : Cx}
/-- how the errors are told -/
def EWd (K : PySem.W.Frag) (CS xa xb : Addr) (Q : VK) : XK := fun cls d H => ∃ (c : Addr) (p q : Bool), cls = .ref c ∧ d = none ∧ PySem.W.exmOne K (.ref c) (.ref CS) = some true ∧ ExcC K c ∧ PySem.W.kitOne K (.ref c) (.ref xa) = some p ∧ PySem.W.kitOne K (.ref c) (.ref xb) = some q ∧ ¬ (p = true ∧ q = true) ∧
  ∀ H', Grow H H' → Q (.str (wordB p q)) H'
def TTw (K : PySem.W.Frag) (CS xa xb : Addr) : (XK → Hp → VK → Prop) → Hp → VK → Prop := fun tl H Q => tl (EWd K CS xa xb Q) H fun _ H' => Q (.str "told") H'
/-- what the def's scope and the module must say -/
structure WordC (K : PySem.W.Frag) (mg : Str → Option Value) (Ng : List Str) (sg : Scope) (a er fl e ca cb : Str) (CS xa xb : Addr) : Prop where
  nd : Ng.Nodup
  n0 : Ng[0]? = some a
  n1 : Ng[1]? = some er
  n2 : Ng[2]? = some fl
  len : Ng.length = 3
  ser : sg.names.lookup er = some .local
  sfl : sg.names.lookup fl = some .local
  se : sg.names.lookup e = some .globalImplicit
  sca : sg.names.lookup ca = some .globalImplicit
  scb : sg.names.lookup cb = some .globalImplicit
  sisi : sg.names.lookup (Str.ofString "isinstance") = some .globalImplicit
  pl : plainName er = true ∧ plainName fl = true ∧ plainName e = true ∧ plainName ca = true ∧ plainName cb = true
  me : mg e = some (.ref CS)
  ma : mg ca = some (.ref xa)
  mb : mg cb = some (.ref xb)
  mi : mg "isinstance" = none
theorem word_gives {Ng : List Str} {x a er fl e ca cb q : Str} {sg : Scope} {g CS xa xb : Addr} {cdg : Value} (W : WordC X.K X.mg Ng sg a er fl e ca cb CS xa xb) (T : List (Addr × Str))
    {p1 p2 p3 p4 p5 p6 p7 p8 p9 pa pb pc pd pe pf pg ph pi pj pk pl pm pn po pq pr ps pt q1 q2 q3 q4 q5 q6 q7 q8 : Pos} {j1 j2 j3 j4 j5 j6 j7 : Nat} (hl1 : (pc.endLine == pe.line) = true) (hl2 : (pj.endLine == pl.line) = true) :
    GivesTo X Ng x sg g cdg [.Try [.Expr (.Call (.Name a q1) [] [] q2) q3] [.ExceptHandler (some (.Name e q4)) (some er)
      [.Assign [.Name fl p1] (.List [.Call (.Name "isinstance" p2) [.Name er p3, .Name ca p4] [] p5, .Call (.Name "isinstance" p6) [.Name er p7, .Name cb p8] [] p9] pa) pb,
      .Return (some (.IfExp (.Compare (.Call (.Attribute (.Name fl pd) "count" pc) [.Constant (.bool true) j1 pm] [] pe) [.Eq] [.Constant (.int 1) j2 pf] pg) (.Subscript (.List [.Constant (.str "chances") j3 ph, .Constant (.str "factor") j4 pi] pn) (.Call (.Attribute (.Name fl pk) "index" pj) [.Constant (.bool true) j5 po] [] pl) pq) (.Constant (.str "odd") j6 pr) ps)) pt]
      q5] [] [] q6, .Return (some (.Constant (.str "told") j7 q7)) q8] a q (TTw X.K CS xa xb) := by
  intro f c' s H Q tl act hc h
  obtain ⟨Z, hZ⟩ : ∃ Z, Z = (cxOf C8.CX0 X.prog X.w X.K X.mg X.base Ng x sg g cdg X.A X.stack s H C8.E0).nox := ⟨_, rfl⟩
  have de := plain_dbg W.pl.2.2.1
  have der := plain_dbg W.pl.1
  have dfl := plain_dbg W.pl.2.1
  have dca := plain_dbg W.pl.2.2.2.1
  have dcb := plain_dbg W.pl.2.2.2.2
  have suite : ∀ (b : Addr) (oe : Obj) (cls : Value) (d : Option Addr) (pn' : List (Addr × Obj)), Zc cls d oe → (∃ vs, oe.data = .fields vs) → PSs (((cxOf C8.CX0 X.prog X.w X.K X.mg X.base Ng x sg g cdg X.A X.stack s H C8.E0).nox).suite b ((b, oe) :: pn')) [.Assign [.Name fl p1] (.List [.Call (.Name "isinstance" p2) [.Name er p3, .Name ca p4] [] p5, .Call (.Name "isinstance" p6) [.Name er p7, .Name cb p8] [] p9] pa) pb,
      .Return (some (.IfExp (.Compare (.Call (.Attribute (.Name fl pd) "count" pc) [.Constant (.bool true) j1 pm] [] pe) [.Eq] [.Constant (.int 1) j2 pf] pg) (.Subscript (.List [.Constant (.str "chances") j3 ph, .Constant (.str "factor") j4 pi] pn) (.Call (.Attribute (.Name fl pk) "index" pj) [.Constant (.bool true) j5 po] [] pl) pq) (.Constant (.str "odd") j6 pr) ps)) pt] (fun D σ H => ∃ (τ : L2.St) (c : Addr) (p q : Bool), σ = τ.set 1 (some (.ref b)) ∧ cls = .ref c ∧ d = none ∧ ExcC X.K c ∧ PySem.W.kitOne X.K (.ref c) (.ref xa) = some p ∧ PySem.W.kitOne X.K (.ref c) (.ref xb) = some q ∧ ¬ (p = true ∧ q = true) ∧
      ∀ H', Grow H H' → D.rt (.str (wordB p q)) H') := fun b oe cls d pn' hz hf => by
    refine ⟨fun pins s' σ H' D I hh => ?_⟩
    obtain ⟨τ, c, p, q, hσ, rfl, rfl, C, k1, k2, npq, hq⟩ := hh
    have hlen : σ.length = 3 := I.len.trans W.len
    have hat : σ[1]? = some (some (.ref b)) := by
      rw [hσ] at hlen ⊢
      rw [List.length_set] at hlen
      exact List.getElem?_set_self (by omega)
    refine (word_suite (X := ((cxOf C8.CX0 X.prog X.w X.K X.mg X.base Ng x sg g cdg X.A X.stack s H C8.E0).nox).suite b ((b, oe) :: pn')) (N := Ng) (a := b) (xa := xa) (xb := xb) (p := p) (q := q) (er := er) (fl := fl) (ca := ca) (cb := cb) rfl W.nd W.n1 W.n2 (by decide) (.inl W.ser) (.inl W.sfl) W.sfl der.1 der.2.1 dfl.1 dfl.2.1 W.sisi W.mi W.sca W.ma dca.1 W.scb W.mb dcb.1
      (call_isE C hz hf) (fun H Q hQ => ⟨.ref xa, .ref xa, p, rfl, fun u z => z, k1, hQ⟩) (fun H Q hQ => ⟨.ref xb, .ref xb, q, rfl, fun u z => z, k2, hQ⟩) T hl1 hl2).run pins s' σ H' D I ⟨by omega, hat, npq, hq⟩
  refine ⟨_, pss_cons (ps_try_as (X := (cxOf C8.CX0 X.prog X.w X.K X.mg X.base Ng x sg g cdg X.A X.stack s H C8.E0).nox) (i := 1) (c := .ref CS)
      (tb := fun Wx D σ H => ∃ Ech : XK, (∀ cls d σ' H', Ech cls d H' → Wx cls d σ' H') ∧ σ[0]? = some (some (.ref f)) ∧ H c' = some (CodeO c' q) ∧ tl Ech H fun _ H1 => D.nx σ H1)
      rfl rfl W.nd W.n1 W.ser ⟨W.se, de.1, .inl W.me⟩ LamX.takes0 (fun Wx pn' xe tk _ => ?_) suite) (pss_one (ps_ret pe_str)), ?_⟩
  · refine ⟨fun pins s' σ H' D I h' => ?_⟩
    obtain ⟨Ech, hW, h1, h2, h3⟩ := h'
    exact (pss_one (ps_expr (pos := q3) (act Wx pn' xe Ech q1 q2 tk hW))).run pins s' σ H' D I ⟨h1, h2, h3⟩
  · refine ⟨EWd X.K CS xa xb Q, fun cls d σ' H' ⟨c, p, qq, e1, e2, e3, e4, e5, e6, e7, e8⟩ => ?_, ?_, hc, h⟩
    · subst e1 e2
      exact ⟨true, e3, fun _ b hb => ⟨σ', c, p, qq, rfl, rfl, rfl, e4, e5, e6, e7, e8⟩, fun z => (nomatch z)⟩
    · unfold L2.start
      rw [W.len]
      rfl
theorem extN_ext {K : PySem.W.Frag} {μ : List Addr} {H H' : Hp} (e : ExtN H H') : Ext K μ H μ H' :=
  ⟨fun _ _ h => h, fun a xs h => by
    rcases h with ⟨o, h, d⟩ | h
    · exact .inl ⟨o, e _ _ h (fun ps z => by cases z), d⟩
    · exact .inr h, fun a xs h => by
    rcases h with ⟨o, h⟩ | h
    · exact .inl ⟨o, e _ _ h (fun ps z => by cases z)⟩
    · exact .inr h, fun a o h p _ => e _ _ h p, fun _ h => .inl h⟩
theorem stR_extN {P : Program} {w : World} {K : PySem.W.Frag} {T : List (Addr × Str)} {μ : List Addr} {H H' : Hp} {S : Store} (s : StR P w K T μ H S) (e : ExtN H H') (t : Tabs T H') : StR P w K T μ H' S := by
  refine ⟨s.len, fun n c h => ?_, s.nd, t⟩
  obtain ⟨a, h1, h2⟩ := s.cel n c h
  have ev := (extN_ext (K := K) (μ := μ) e).v
  refine ⟨a, h1, ?_⟩
  cases c with
  | lst vs =>
    obtain ⟨xs, q, r⟩ := h2
    exact ⟨xs, e _ _ q (fun ps z => by cases z), r.extV ev⟩
  | dic kvs =>
    obtain ⟨o, xs, q, z, l, d, r⟩ := h2
    exact ⟨o, xs, e _ _ q (fun ps z => by (unfold ExO at z; cases z)), z, l, d, r.extV ev⟩
theorem lam_word {Y : Wx} {k : Nat} {lt : R Val → R Val} {x a er fl e ca cb : Str} {g c P CS xa xb : Addr} {pg : Arguments} {sg : Scope} {dV kV doc pm cdv ct oc : Value} {an od : Option Addr} {osl : Array (Option Value)} {Ng : List Str}
    {p1 p2 p3 p4 p5 p6 p7 p8 p9 pa pb pc pd pe pf pg' ph pi pj pk pl pm' pn po pq pr ps pt q1 q2 q3 q4 q5 q6 q7 q8 : Pos} {j1 j2 j3 j4 j5 j6 j7 : Nat} (hl1 : (pc.endLine == pe.line) = true) (hl2 : (pj.endLine == pl.line) = true)
    (W : WordC X.K X.mg Ng sg a er fl e ca cb CS xa xb) (hg : Gl X x) (hm : X.mg x = some (.ref g)) (hk : PySem.W.keepIn X.K (.ref g) = true) (hx : plainName x = true) (ha : plainName a = true)
    (lk : X.K.lookup g = some ⟨oc, od, .func (PySem.W.fnOf x x pg [.Try [.Expr (.Call (.Name a q1) [] [] q2) q3] [.ExceptHandler (some (.Name e q4)) (some er)
      [.Assign [.Name fl p1] (.List [.Call (.Name "isinstance" p2) [.Name er p3, .Name ca p4] [] p5, .Call (.Name "isinstance" p6) [.Name er p7, .Name cb p8] [] p9] pa) pb,
      .Return (some (.IfExp (.Compare (.Call (.Attribute (.Name fl pd) "count" pc) [.Constant (.bool true) j1 pm'] [] pe) [.Eq] [.Constant (.int 1) j2 pf] pg') (.Subscript (.List [.Constant (.str "chances") j3 ph, .Constant (.str "factor") j4 pi] pn) (.Call (.Attribute (.Name fl pk) "index" pj) [.Constant (.bool true) j5 po] [] pl) pq) (.Constant (.str "odd") j6 pr) ps)) pt]
      q5] [] [] q6, .Return (some (.Constant (.str "told") j7 q7)) q8] sg dV kV doc pm an cdv ct), osl⟩)
    (hcg : PySem.W.codeIn X.K cdv x = true) (hb : L2.Binds X.K (PySem.W.fnOf x x pg [.Try [.Expr (.Call (.Name a q1) [] [] q2) q3] [.ExceptHandler (some (.Name e q4)) (some er)
      [.Assign [.Name fl p1] (.List [.Call (.Name "isinstance" p2) [.Name er p3, .Name ca p4] [] p5, .Call (.Name "isinstance" p6) [.Name er p7, .Name cb p8] [] p9] pa) pb,
      .Return (some (.IfExp (.Compare (.Call (.Attribute (.Name fl pd) "count" pc) [.Constant (.bool true) j1 pm'] [] pe) [.Eq] [.Constant (.int 1) j2 pf] pg') (.Subscript (.List [.Constant (.str "chances") j3 ph, .Constant (.str "factor") j4 pi] pn) (.Call (.Attribute (.Name fl pk) "index" pj) [.Constant (.bool true) j5 po] [] pl) pq) (.Constant (.str "odd") j6 pr) ps)) pt]
      q5] [] [] q6, .Return (some (.Constant (.str "told") j7 q7)) q8] sg dV kV doc pm an cdv ct) [a] [])
    (Sg : FnScope Ng [a] sg) (TB : TabB X.base X.mg c P) (hcode : X.env.code = .ref c) (hmT : (P, X.env.qual ++ "<lambda>") ∈ Y.T) (hu : ∀ p ∈ Y.T, p.1 = P → p.2 = X.env.qual ++ "<lambda>") (hr : Room (k + 2) X.A)
    (hok : ∀ v S, lt (.ok v S) = .ok (.str "told") S) (hst : lt .stuck = .stuck)
    (herr : ∀ n S, lt (.err n S) = .stuck ∨ ∃ (cc : Addr) (p q : Bool), Y.cv n = .ref cc ∧ PySem.W.exmOne X.K (.ref cc) (.ref CS) = some true ∧ ExcC X.K cc ∧ PySem.W.kitOne X.K (.ref cc) (.ref xa) = some p ∧ PySem.W.kitOne X.K (.ref cc) (.ref xb) = some q ∧ ¬ (p = true ∧ q = true) ∧ lt (.err n S) = .ok (.str (wordB p q)) S) :
    LamFact X Y k x lt := by
  intro params body scope lpos p pos f a1 a2 a3 a4 a5 a6 a7 hL hbody
  have dx := plain_dbg hx
  have da := plain_dbg ha
  have va : Vis sg a := (Sg.par a (by simp)).elim .inl fun z => .inr (.inl z)
  obtain ⟨o1, o2, o3, o4, o5, o6, o7⟩ := params
  dsimp only at a1 a2 a3 a4 a5 a6 a7
  subst a1 a2 a3 a4 a5 a6 a7
  refine (pe_lamcall (T := Y.T) (TT := TTw X.K CS xa xb) (t := fun E => rd X { Y with E := E } (rV X.K) f) hg hm hk lk hcg hb Sg W.n0 va (word_gives W Y.T hl1 hl2) TB hcode hmT hu hr (lamS_by hL) rfl (fun _ _ _ _ _ => rfl) hbody dx.1 da.1 da.2.1).imp fun σ H Q ⟨μ, e, S, he, hs, h⟩ => ?_
  refine ⟨hs.tabs, fun H1 eN tN => ?_⟩
  have xN := extN_ext (K := X.K) (μ := μ) eN
  refine ⟨μ, e, S, he.ext xN, stR_extN hs eN tN, ?_⟩
  have h : Po X Y (rV X.K) μ H (lt (f e S)) Q := h
  cases ef : f e S with
  | ok v S1 =>
    rw [ef, hok] at h
    exact fun μ' H' b x' s' _ => h μ' H' _ (xN.trans x') s' (.str _)
  | stuck =>
    rw [ef, hst] at h
    exact h
  | err n S1 =>
    rw [ef] at h
    rcases herr n S1 with z | ⟨cc, p, q, z1, z2, z3, z4, z5, z6, z7⟩
    · rw [z] at h
      exact h.elim
    · rw [z7] at h
      exact fun μ' H' x' s' => ⟨cc, p, q, z1, rfl, z2, z3, z4, z5, z6, fun H2 gr => h μ' H2 _ ((xN.trans x').trans gr.ext) (s'.grow gr) (.str _)⟩
end
end Ev
end

section
set_option Elab.async false
set_option linter.all false
set_option maxRecDepth 100000
/-! The IR of the linked text, printed by gen.py, and the check that it is the translation of the tree. -/
namespace Law
open PySem Ev
def topS (i : Nat) : Stmt := PySem.Challenge.pw_oddsheld_k21_whole_odds_where_outs_are_a.main.body.getD i (.Pass ⟨0, 0, 0, 0⟩)
def fnsN : List Str := (["is_integer", "common", "is_fraction", "is_chance", "is_factor", "made", "raw_plus", "raw_by", "raw_at_most", "is_out", "are_outs", "are_chances", "check_chances", "raw_odds", "odds", "raw_both", "odds_both", "lot_chance", "is_within_odds", "_law_hand", "_law_draw", "_law_some", "_law_is", "_law_fr", "_law_times"] : List Str) ++ (["_law_over", "_law_less", "_law_odds", "_law_both_odds", "_law_pool", "_law_weighed", "_law_lacking", "_law_bent", "_law_are_lots_right", "_law_are_known_right", "law"] : List Str)
def glbN : List Str := (["NOUGHT", "ONE", "ODDS", "ENDLESS"] : List Str)
def clsN : List Str := (["OddsError", "NoChances", "NoOuts", "NoFactor"] : List Str)
def tksN : List Str := (["_law_word"] : List Str)
abbrev tcW (N : List Str) (i : Nat) (tks : List Str) : TC := ⟨N, L2.defScope (topS i), fnsN, glbN, clsN, tks⟩
-- is_integer
def n_is_integer : List Str := (["thing"] : List Str)
def b_is_integer : IB := (.cons (.ret (.and (.isi (.var 0) .int) (.not (.isi (.var 0) .bool)))) .nil)
def f_is_integer : FnIR := ⟨1, 1, b_is_integer⟩
def p_is_integer : List Str := (["thing"] : List Str)
theorem t_is_integer : trB (tcW n_is_integer 8 []) 60 (L2.defBody (topS 8)) = some b_is_integer := by kernel_rfl
-- common
def n_common : List Str := (["x", "y"] : List Str)
def b_common : IB := (.cons (.whl (.cmp .ne (.var 1) (.cst (.int 0))) (.cons (.par 0 1 (.var 1) (.bin .mod (.bi .int (.var 0)) (.var 1))) .nil)) (.cons (.ret (.var 0)) .nil))
def f_common : FnIR := ⟨2, 2, b_common⟩
def p_common : List Str := (["x", "y"] : List Str)
theorem t_common : trB (tcW n_common 9 []) 60 (L2.defBody (topS 9)) = some b_common := by kernel_rfl
-- is_fraction
def n_is_fraction : List Str := (["thing"] : List Str)
def b_is_fraction : IB := (.cons (.ife (.or (.not (.isi (.var 0) .tuple)) (.or (.cmp .ne (.bi .len (.var 0)) (.cst (.int 2))) (.or (.not (.call 0 (.cons (.idx (.var 0) (.cst (.int 0))) .nil))) (.not (.call 0 (.cons (.idx (.var 0) (.cst (.int 1))) .nil)))))) (.cons (.ret (.cst (.bl false))) .nil) .nil) (.cons (.ret (.and (.cmp .gt (.idx (.var 0) (.cst (.int 1))) (.cst (.int 0))) (.cmp .eq (.call 1 (.cons (.bi .abs (.idx (.var 0) (.cst (.int 0)))) (.cons (.idx (.var 0) (.cst (.int 1))) .nil))) (.cst (.int 1))))) .nil))
def f_is_fraction : FnIR := ⟨1, 1, b_is_fraction⟩
def p_is_fraction : List Str := (["thing"] : List Str)
theorem t_is_fraction : trB (tcW n_is_fraction 10 []) 60 (L2.defBody (topS 10)) = some b_is_fraction := by kernel_rfl
-- is_chance
def n_is_chance : List Str := (["thing"] : List Str)
def b_is_chance : IB := (.cons (.ret (.and (.call 2 (.cons (.var 0) .nil)) (.chn .le .le (.cst (.int 0)) (.idx (.var 0) (.cst (.int 0))) (.idx (.var 0) (.cst (.int 1)))))) .nil)
def f_is_chance : FnIR := ⟨1, 1, b_is_chance⟩
def p_is_chance : List Str := (["thing"] : List Str)
theorem t_is_chance : trB (tcW n_is_chance 11 []) 60 (L2.defBody (topS 11)) = some b_is_chance := by kernel_rfl
-- is_factor
def n_is_factor : List Str := (["thing"] : List Str)
def b_is_factor : IB := (.cons (.ret (.and (.call 2 (.cons (.var 0) .nil)) (.cmp .ge (.idx (.var 0) (.cst (.int 0))) (.idx (.var 0) (.cst (.int 1)))))) .nil)
def f_is_factor : FnIR := ⟨1, 1, b_is_factor⟩
def p_is_factor : List Str := (["thing"] : List Str)
theorem t_is_factor : trB (tcW n_is_factor 12 []) 60 (L2.defBody (topS 12)) = some b_is_factor := by kernel_rfl
-- made
def n_made : List Str := (["top", "bottom", "by_both"] : List Str)
def b_made : IB := (.cons (.asg (.name 2) (.call 1 (.cons (.bi .abs (.var 0)) (.cons (.bi .abs (.var 1)) .nil)))) (.cons (.ife (.cmp .lt (.var 1) (.cst (.int 0))) (.cons (.asg (.name 2) (.neg (.var 2))) .nil) .nil) (.cons (.ret (.tup (.cons (.bin .fdiv (.var 0) (.var 2)) (.cons (.bin .fdiv (.var 1) (.var 2)) .nil)))) .nil)))
def f_made : FnIR := ⟨2, 3, b_made⟩
def p_made : List Str := (["top", "bottom"] : List Str)
theorem t_made : trB (tcW n_made 13 []) 60 (L2.defBody (topS 13)) = some b_made := by kernel_rfl
-- raw_plus
def n_raw_plus : List Str := (["x", "y"] : List Str)
def b_raw_plus : IB := (.cons (.ret (.call 5 (.cons (.bin .add (.bin .mul (.idx (.var 0) (.cst (.int 0))) (.idx (.var 1) (.cst (.int 1)))) (.bin .mul (.idx (.var 1) (.cst (.int 0))) (.idx (.var 0) (.cst (.int 1))))) (.cons (.bin .mul (.idx (.var 0) (.cst (.int 1))) (.idx (.var 1) (.cst (.int 1)))) .nil)))) .nil)
def f_raw_plus : FnIR := ⟨2, 2, b_raw_plus⟩
def p_raw_plus : List Str := (["x", "y"] : List Str)
theorem t_raw_plus : trB (tcW n_raw_plus 14 []) 60 (L2.defBody (topS 14)) = some b_raw_plus := by kernel_rfl
-- raw_by
def n_raw_by : List Str := (["x", "y"] : List Str)
def b_raw_by : IB := (.cons (.ret (.call 5 (.cons (.bin .mul (.idx (.var 0) (.cst (.int 0))) (.idx (.var 1) (.cst (.int 1)))) (.cons (.bin .mul (.idx (.var 0) (.cst (.int 1))) (.idx (.var 1) (.cst (.int 0)))) .nil)))) .nil)
def f_raw_by : FnIR := ⟨2, 2, b_raw_by⟩
def p_raw_by : List Str := (["x", "y"] : List Str)
theorem t_raw_by : trB (tcW n_raw_by 15 []) 60 (L2.defBody (topS 15)) = some b_raw_by := by kernel_rfl
-- raw_at_most
def n_raw_at_most : List Str := (["x", "y"] : List Str)
def b_raw_at_most : IB := (.cons (.ret (.cmp .le (.bin .mul (.idx (.var 0) (.cst (.int 0))) (.idx (.var 1) (.cst (.int 1)))) (.bin .mul (.idx (.var 1) (.cst (.int 0))) (.idx (.var 0) (.cst (.int 1)))))) .nil)
def f_raw_at_most : FnIR := ⟨2, 2, b_raw_at_most⟩
def p_raw_at_most : List Str := (["x", "y"] : List Str)
theorem t_raw_at_most : trB (tcW n_raw_at_most 16 []) 60 (L2.defBody (topS 16)) = some b_raw_at_most := by kernel_rfl
-- is_out
def n_is_out : List Str := (["thing", "one"] : List Str)
def b_is_out : IB := (.cons (.ife (.or (.not (.isi (.var 0) .tuple)) (.or (.cmp .ne (.bi .len (.var 0)) (.cst (.int 2))) (.or (.not (.isi (.idx (.var 0) (.cst (.int 0))) .tuple)) (.not (.call 0 (.cons (.idx (.var 0) (.cst (.int 1))) .nil)))))) (.cons (.ret (.cst (.bl false))) .nil) .nil) (.cons (.ret (.bi .all (.lc [1] (.call 0 (.cons (.var 1) .nil)) (.name 1) (.seq (.idx (.var 0) (.cst (.int 0)))) .none))) .nil))
def f_is_out : FnIR := ⟨1, 2, b_is_out⟩
def p_is_out : List Str := (["thing"] : List Str)
theorem t_is_out : trB (tcW n_is_out 20 []) 60 (L2.defBody (topS 20)) = some b_is_out := by kernel_rfl
-- are_outs
def n_are_outs : List Str := (["thing", "one", "other", "out"] : List Str)
def b_are_outs : IB := (.cons (.ife (.or (.not (.isi (.var 0) .tuple)) (.not (.bi .all (.lc [3] (.call 9 (.cons (.var 3) .nil)) (.name 3) (.seq (.var 0)) .none)))) (.cons (.ret (.cst (.bl false))) .nil) .nil) (.cons (.ret (.bi .all (.lc [1, 2] (.cmp .lt (.var 1) (.var 2)) (.tup (.cons (.name 1) (.cons (.name 2) .nil))) (.zip (.var 0) (.slc (.var 0) (.some (.cst (.int 1))) .none)) .none))) .nil))
def f_are_outs : FnIR := ⟨1, 4, b_are_outs⟩
def p_are_outs : List Str := (["thing"] : List Str)
theorem t_are_outs : trB (tcW n_are_outs 21 []) 60 (L2.defBody (topS 21)) = some b_are_outs := by kernel_rfl
-- are_chances
def n_are_chances : List Str := (["thing", "whole", "out", "chance", "pair"] : List Str)
def b_are_chances : IB := (.cons (.ife (.or (.not (.isi (.var 0) .tuple)) (.not (.bi .all (.lc [4] (.and (.isi (.var 4) .tuple) (.cmp .eq (.bi .len (.var 4)) (.cst (.int 2)))) (.name 4) (.seq (.var 0)) .none)))) (.cons (.ret (.cst (.bl false))) .nil) .nil) (.cons (.ife (.not (.call 10 (.cons (.bi .tuple (.lc [4] (.idx (.var 4) (.cst (.int 0))) (.name 4) (.seq (.var 0)) .none)) .nil))) (.cons (.ret (.cst (.bl false))) .nil) .nil) (.cons (.ife (.not (.bi .all (.lc [4] (.and (.call 3 (.cons (.idx (.var 4) (.cst (.int 1))) .nil)) (.cmp .ne (.idx (.var 4) (.cst (.int 1))) (.glb 0))) (.name 4) (.seq (.var 0)) .none))) (.cons (.ret (.cst (.bl false))) .nil) .nil) (.cons (.asg (.name 1) (.glb 0)) (.cons (.for (.tup (.cons (.name 2) (.cons (.name 3) .nil))) (.seq (.var 0)) (.cons (.asg (.name 1) (.call 6 (.cons (.var 1) (.cons (.var 3) .nil)))) .nil)) (.cons (.ret (.cmp .eq (.var 1) (.glb 1))) .nil))))))
def f_are_chances : FnIR := ⟨1, 5, b_are_chances⟩
def p_are_chances : List Str := (["thing"] : List Str)
theorem t_are_chances : trB (tcW n_are_chances 22 []) 60 (L2.defBody (topS 22)) = some b_are_chances := by kernel_rfl
-- check_chances
def n_check_chances : List Str := (["one", "other"] : List Str)
def b_check_chances : IB := (.cons (.ife (.or (.not (.call 11 (.cons (.var 0) .nil))) (.not (.call 11 (.cons (.var 1) .nil)))) (.cons (.raise 1) .nil) .nil) .nil)
def f_check_chances : FnIR := ⟨2, 2, b_check_chances⟩
def p_check_chances : List Str := (["one", "other"] : List Str)
theorem t_check_chances : trB (tcW n_check_chances 23 []) 60 (L2.defBody (topS 23)) = some b_check_chances := by kernel_rfl
-- raw_odds
def n_raw_odds : List Str := (["one", "other", "known", "best", "out", "chance", "share"] : List Str)
def b_raw_odds : IB := (.cons (.par 2 3 (.bi .dict (.var 1)) (.cst .non)) (.cons (.for (.tup (.cons (.name 4) (.cons (.name 5) .nil))) (.seq (.var 0)) (.cons (.ife (.cmp .notin (.var 4) (.var 2)) (.cons (.ret (.tup (.cons (.glb 3) (.cons (.var 4) .nil)))) .nil) .nil) (.cons (.asg (.name 6) (.call 7 (.cons (.var 5) (.cons (.idx (.var 2) (.var 4)) .nil)))) (.cons (.ife (.or (.cmp .is (.var 3) (.cst .non)) (.not (.call 8 (.cons (.var 6) (.cons (.idx (.var 3) (.cst (.int 0))) .nil))))) (.cons (.asg (.name 3) (.tup (.cons (.var 6) (.cons (.var 4) .nil)))) .nil) .nil) .nil)))) (.cons (.ret (.bin .add (.tup (.cons (.glb 2) .nil)) (.var 3))) .nil)))
def f_raw_odds : FnIR := ⟨2, 7, b_raw_odds⟩
def p_raw_odds : List Str := (["one", "other"] : List Str)
theorem t_raw_odds : trB (tcW n_raw_odds 24 []) 60 (L2.defBody (topS 24)) = some b_raw_odds := by kernel_rfl
-- odds
def n_odds : List Str := (["one", "other"] : List Str)
def b_odds : IB := (.cons (.expr (.call 12 (.cons (.var 0) (.cons (.var 1) .nil)))) (.cons (.ret (.call 13 (.cons (.var 0) (.cons (.var 1) .nil)))) .nil))
def f_odds : FnIR := ⟨2, 2, b_odds⟩
def p_odds : List Str := (["one", "other"] : List Str)
theorem t_odds : trB (tcW n_odds 25 []) 60 (L2.defBody (topS 25)) = some b_odds := by kernel_rfl
-- raw_both
def n_raw_both : List Str := (["one", "other", "first", "last"] : List Str)
def b_raw_both : IB := (.cons (.par 2 3 (.call 13 (.cons (.var 0) (.cons (.var 1) .nil))) (.call 13 (.cons (.var 1) (.cons (.var 0) .nil)))) (.cons (.ife (.or (.cmp .eq (.idx (.var 2) (.cst (.int 0))) (.glb 3)) (.cmp .eq (.idx (.var 3) (.cst (.int 0))) (.glb 3))) (.cons (.ret (.ife (.cmp .eq (.idx (.var 2) (.cst (.int 0))) (.glb 3)) (.bin .add (.var 2) (.tup (.cons (.cst (.bl false)) .nil))) (.bin .add (.var 3) (.tup (.cons (.cst (.bl true)) .nil))))) .nil) .nil) (.cons (.ret (.ife (.not (.call 8 (.cons (.idx (.var 3) (.cst (.int 1))) (.cons (.idx (.var 2) (.cst (.int 1))) .nil)))) (.bin .add (.var 3) (.tup (.cons (.cst (.bl true)) .nil))) (.bin .add (.var 2) (.tup (.cons (.cst (.bl false)) .nil))))) .nil)))
def f_raw_both : FnIR := ⟨2, 4, b_raw_both⟩
def p_raw_both : List Str := (["one", "other"] : List Str)
theorem t_raw_both : trB (tcW n_raw_both 26 []) 60 (L2.defBody (topS 26)) = some b_raw_both := by kernel_rfl
-- odds_both
def n_odds_both : List Str := (["one", "other"] : List Str)
def b_odds_both : IB := (.cons (.expr (.call 12 (.cons (.var 0) (.cons (.var 1) .nil)))) (.cons (.ret (.call 15 (.cons (.var 0) (.cons (.var 1) .nil)))) .nil))
def f_odds_both : FnIR := ⟨2, 2, b_odds_both⟩
def p_odds_both : List Str := (["one", "other"] : List Str)
theorem t_odds_both : trB (tcW n_odds_both 27 []) 60 (L2.defBody (topS 27)) = some b_odds_both := by kernel_rfl
-- lot_chance
def n_lot_chance : List Str := (["told", "outs", "out", "known", "found"] : List Str)
def b_lot_chance : IB := (.cons (.expr (.call 12 (.cons (.var 0) (.cons (.var 0) .nil)))) (.cons (.ife (.not (.call 10 (.cons (.var 1) .nil))) (.cons (.raise 2) .nil) .nil) (.cons (.par 3 4 (.bi .dict (.var 0)) (.glb 0)) (.cons (.for (.name 2) (.seq (.var 1)) (.cons (.asg (.name 4) (.call 6 (.cons (.var 4) (.cons (.get2 (.var 3) (.var 2) (.glb 0)) .nil)))) .nil)) (.cons (.ret (.var 4)) .nil)))))
def f_lot_chance : FnIR := ⟨2, 5, b_lot_chance⟩
def p_lot_chance : List Str := (["told", "outs"] : List Str)
theorem t_lot_chance : trB (tcW n_lot_chance 28 []) 60 (L2.defBody (topS 28)) = some b_lot_chance := by kernel_rfl
-- is_within_odds
def n_is_within_odds : List Str := (["one", "other", "factor", "told"] : List Str)
def b_is_within_odds : IB := (.cons (.expr (.call 12 (.cons (.var 0) (.cons (.var 1) .nil)))) (.cons (.ife (.not (.call 4 (.cons (.var 2) .nil))) (.cons (.raise 3) .nil) .nil) (.cons (.asg (.name 3) (.call 15 (.cons (.var 0) (.cons (.var 1) .nil)))) (.cons (.ret (.and (.cmp .eq (.idx (.var 3) (.cst (.int 0))) (.glb 2)) (.call 8 (.cons (.idx (.var 3) (.cst (.int 1))) (.cons (.var 2) .nil))))) .nil))))
def f_is_within_odds : FnIR := ⟨3, 4, b_is_within_odds⟩
def p_is_within_odds : List Str := (["one", "other", "factor"] : List Str)
theorem t_is_within_odds : trB (tcW n_is_within_odds 29 []) 60 (L2.defBody (topS 29)) = some b_is_within_odds := by kernel_rfl
-- _law_hand
def n__law_hand : List Str := (["script", "cells", "cell"] : List Str)
def b__law_hand : IB := (.cons (.asg (.name 1) (.lc [2] (.bi .abs (.bi .int (.var 2))) (.name 2) (.seq (.slc (.var 0) .none (.some (.cst (.int 63))))) .none)) (.cons (.ret (.lst (.cons (.var 1) (.cons (.cst (.int 0)) (.cons (.cst (.int 0)) (.cons (.bin .add (.cst (.int 21211)) (.bin .mul (.cst (.int 7)) (.bi .len (.var 1)))) (.cons (.cst (.int 0)) .nil))))))) .nil))
def f__law_hand : FnIR := ⟨1, 3, b__law_hand⟩
def p__law_hand : List Str := (["script"] : List Str)
theorem t__law_hand : trB (tcW n__law_hand 31 []) 60 (L2.defBody (topS 31)) = some b__law_hand := by kernel_rfl
-- _law_draw
def n__law_draw : List Str := (["hand", "many", "number", "cell", "digit"] : List Str)
def b__law_draw : IB := (.cons (.ife (.and (.cmp .eq (.idx (.var 0) (.cst (.int 2))) (.cst (.int 0))) (.cmp .lt (.idx (.var 0) (.cst (.int 1))) (.bi .len (.idx (.var 0) (.cst (.int 0)))))) (.cons (.asg (.name 3) (.idx (.idx (.var 0) (.cst (.int 0))) (.idx (.var 0) (.cst (.int 1))))) (.cons (.sub (.var 0) (.cst (.int 1)) (.bin .add (.idx (.var 0) (.cst (.int 1))) (.cst (.int 1)))) (.cons (.sub (.var 0) (.cst (.int 3)) (.bin .mod (.bi .int (.bin .add (.bin .add (.bin .mul (.idx (.var 0) (.cst (.int 3))) (.cst (.int 69621))) (.var 3)) (.cst (.int 29)))) (.cst (.int 2147483629)))) (.cons (.ife (.cmp .ge (.var 3) (.bin .pow (.cst (.int 10)) (.cst (.int 18)))) (.cons (.sub (.var 0) (.cst (.int 2)) (.var 3)) .nil) .nil) .nil)))) .nil) (.cons (.ife (.cmp .gt (.idx (.var 0) (.cst (.int 2))) (.cst (.int 0))) (.cons (.asg (.name 4) (.bin .mod (.bi .int (.idx (.var 0) (.cst (.int 2)))) (.var 1))) (.cons (.sub (.var 0) (.cst (.int 2)) (.bin .fdiv (.idx (.var 0) (.cst (.int 2))) (.var 1))) (.cons (.ret (.var 4)) .nil))) .nil) (.cons (.sub (.var 0) (.cst (.int 4)) (.bin .add (.idx (.var 0) (.cst (.int 4))) (.cst (.int 1)))) (.cons (.asg (.name 2) (.bin .mod (.bi .int (.bin .mul (.bi .int (.bin .add (.idx (.var 0) (.cst (.int 3))) (.bin .mul (.cst (.int 7919)) (.idx (.var 0) (.cst (.int 4)))))) (.cst (.int 48271)))) (.cst (.int 2147483647)))) (.cons (.asg (.name 2) (.bin .mod (.bi .int (.bin .mul (.var 2) (.bin .add (.bin .fdiv (.var 2) (.cst (.int 1009))) (.cst (.int 69621))))) (.cst (.int 2147483647)))) (.cons (.asg (.name 2) (.bin .mod (.bi .int (.bin .mul (.var 2) (.bin .add (.bin .fdiv (.var 2) (.cst (.int 2003))) (.cst (.int 40692))))) (.cst (.int 2147483399)))) (.cons (.ret (.bin .mod (.bi .int (.bin .fdiv (.var 2) (.cst (.int 16)))) (.var 1))) .nil)))))))
def f__law_draw : FnIR := ⟨2, 5, b__law_draw⟩
def p__law_draw : List Str := (["hand", "many"] : List Str)
theorem t__law_draw : trB (tcW n__law_draw 32 []) 60 (L2.defBody (topS 32)) = some b__law_draw := by kernel_rfl
-- _law_some
def n__law_some : List Str := (["hand", "things"] : List Str)
def b__law_some : IB := (.cons (.ret (.idx (.var 1) (.call 20 (.cons (.var 0) (.cons (.bi .len (.var 1)) .nil))))) .nil)
def f__law_some : FnIR := ⟨2, 2, b__law_some⟩
def p__law_some : List Str := (["hand", "things"] : List Str)
theorem t__law_some : trB (tcW n__law_some 33 []) 60 (L2.defBody (topS 33)) = some b__law_some := by kernel_rfl
-- _law_is
def n__law_is : List Str := (["one", "other"] : List Str)
def b__law_is : IB := (.cons (.ret (.cmp .eq (.bi .repr (.var 0)) (.bi .repr (.var 1)))) .nil)
def f__law_is : FnIR := ⟨2, 2, b__law_is⟩
def p__law_is : List Str := (["one", "other"] : List Str)
theorem t__law_is : trB (tcW n__law_is 34 []) 60 (L2.defBody (topS 34)) = some b__law_is := by kernel_rfl
-- _law_fr
def n__law_fr : List Str := (["top", "bottom", "sign", "one", "other"] : List Str)
def b__law_fr : IB := (.cons (.par 3 4 (.bi .abs (.var 0)) (.bi .abs (.var 1))) (.cons (.whl (.cmp .gt (.var 4) (.cst (.int 0))) (.cons (.par 3 4 (.var 4) (.bin .mod (.bi .int (.var 3)) (.var 4))) .nil)) (.cons (.asg (.name 2) (.ife (.cmp .lt (.var 1) (.cst (.int 0))) (.neg (.cst (.int 1))) (.cst (.int 1)))) (.cons (.ret (.tup (.cons (.bin .fdiv (.bin .mul (.var 2) (.var 0)) (.var 3)) (.cons (.bin .fdiv (.bin .mul (.var 2) (.var 1)) (.var 3)) .nil)))) .nil))))
def f__law_fr : FnIR := ⟨2, 5, b__law_fr⟩
def p__law_fr : List Str := (["top", "bottom"] : List Str)
theorem t__law_fr : trB (tcW n__law_fr 35 []) 60 (L2.defBody (topS 35)) = some b__law_fr := by kernel_rfl
-- _law_times
def n__law_times : List Str := (["one", "other"] : List Str)
def b__law_times : IB := (.cons (.ret (.call 23 (.cons (.bin .mul (.idx (.var 0) (.cst (.int 0))) (.idx (.var 1) (.cst (.int 0)))) (.cons (.bin .mul (.idx (.var 0) (.cst (.int 1))) (.idx (.var 1) (.cst (.int 1)))) .nil)))) .nil)
def f__law_times : FnIR := ⟨2, 2, b__law_times⟩
def p__law_times : List Str := (["one", "other"] : List Str)
theorem t__law_times : trB (tcW n__law_times 36 []) 60 (L2.defBody (topS 36)) = some b__law_times := by kernel_rfl
-- _law_over
def n__law_over : List Str := (["one", "other"] : List Str)
def b__law_over : IB := (.cons (.ret (.call 23 (.cons (.bin .mul (.idx (.var 0) (.cst (.int 0))) (.idx (.var 1) (.cst (.int 1)))) (.cons (.bin .mul (.idx (.var 0) (.cst (.int 1))) (.idx (.var 1) (.cst (.int 0)))) .nil)))) .nil)
def f__law_over : FnIR := ⟨2, 2, b__law_over⟩
def p__law_over : List Str := (["one", "other"] : List Str)
theorem t__law_over : trB (tcW n__law_over 37 []) 60 (L2.defBody (topS 37)) = some b__law_over := by kernel_rfl
-- _law_less
def n__law_less : List Str := (["one", "other"] : List Str)
def b__law_less : IB := (.cons (.ret (.cmp .lt (.bin .mul (.idx (.var 0) (.cst (.int 0))) (.idx (.var 1) (.cst (.int 1)))) (.bin .mul (.idx (.var 1) (.cst (.int 0))) (.idx (.var 0) (.cst (.int 1)))))) .nil)
def f__law_less : FnIR := ⟨2, 2, b__law_less⟩
def p__law_less : List Str := (["one", "other"] : List Str)
theorem t__law_less : trB (tcW n__law_less 38 []) 60 (L2.defBody (topS 38)) = some b__law_less := by kernel_rfl
-- _law_odds
def n__law_odds : List Str := (["one", "other", "there", "best", "out", "chance", "x"] : List Str)
def b__law_odds : IB := (.cons (.par 2 3 (.bi .dict (.var 1)) (.cst .non)) (.cons (.for (.tup (.cons (.name 4) (.cons (.name 5) .nil))) (.seq (.var 0)) (.cons (.ife (.cmp .notin (.var 4) (.var 2)) (.cons (.ret (.tup (.cons (.cst (.str "endless")) (.cons (.var 4) .nil)))) .nil) .nil) (.cons (.asg (.name 6) (.call 25 (.cons (.var 5) (.cons (.idx (.var 2) (.var 4)) .nil)))) (.cons (.ife (.or (.cmp .is (.var 3) (.cst .non)) (.call 26 (.cons (.idx (.var 3) (.cst (.int 1))) (.cons (.var 6) .nil)))) (.cons (.asg (.name 3) (.tup (.cons (.cst (.str "odds")) (.cons (.var 6) (.cons (.var 4) .nil))))) .nil) .nil) .nil)))) (.cons (.ret (.var 3)) .nil)))
def f__law_odds : FnIR := ⟨2, 7, b__law_odds⟩
def p__law_odds : List Str := (["one", "other"] : List Str)
theorem t__law_odds : trB (tcW n__law_odds 39 []) 60 (L2.defBody (topS 39)) = some b__law_odds := by kernel_rfl
-- _law_both_odds
def n__law_both_odds : List Str := (["one", "other", "first", "last"] : List Str)
def b__law_both_odds : IB := (.cons (.par 2 3 (.call 27 (.cons (.var 0) (.cons (.var 1) .nil))) (.call 27 (.cons (.var 1) (.cons (.var 0) .nil)))) (.cons (.ife (.or (.cmp .eq (.idx (.var 2) (.cst (.int 0))) (.cst (.str "endless"))) (.cmp .eq (.idx (.var 3) (.cst (.int 0))) (.cst (.str "endless")))) (.cons (.ret (.ife (.cmp .eq (.idx (.var 2) (.cst (.int 0))) (.cst (.str "endless"))) (.bin .add (.var 2) (.tup (.cons (.cst (.bl false)) .nil))) (.bin .add (.var 3) (.tup (.cons (.cst (.bl true)) .nil))))) .nil) .nil) (.cons (.ret (.ife (.call 26 (.cons (.idx (.var 2) (.cst (.int 1))) (.cons (.idx (.var 3) (.cst (.int 1))) .nil))) (.bin .add (.var 3) (.tup (.cons (.cst (.bl true)) .nil))) (.bin .add (.var 2) (.tup (.cons (.cst (.bl false)) .nil))))) .nil)))
def f__law_both_odds : FnIR := ⟨2, 4, b__law_both_odds⟩
def p__law_both_odds : List Str := (["one", "other"] : List Str)
theorem t__law_both_odds : trB (tcW n__law_both_odds 40 []) 60 (L2.defBody (topS 40)) = some b__law_both_odds := by kernel_rfl
-- _law_pool
def n__law_pool : List Str := (["hand", "found", "turn", "told", "at"] : List Str)
def b__law_pool : IB := (.cons (.asg (.name 1) .dnew) (.cons (.for (.name 2) (.range (.bin .add (.cst (.int 1)) (.call 20 (.cons (.var 0) (.cons (.cst (.int 7)) .nil))))) (.cons (.asg (.name 3) (.bi .tuple (.lc [4] (.bin .sub (.call 20 (.cons (.var 0) (.cons (.cst (.int 3)) .nil))) (.cst (.int 1))) (.name 4) (.range (.call 20 (.cons (.var 0) (.cons (.cst (.int 3)) .nil)))) .none))) (.cons (.sub (.var 1) (.tup (.cons (.var 3) (.cons (.bin .sub (.call 20 (.cons (.var 0) (.cons (.cst (.int 5)) .nil))) (.cst (.int 2))) .nil))) (.cst (.bl true))) .nil))) (.cons (.ret (.bi .sorted (.var 1))) .nil)))
def f__law_pool : FnIR := ⟨1, 5, b__law_pool⟩
def p__law_pool : List Str := (["hand"] : List Str)
theorem t__law_pool : trB (tcW n__law_pool 41 []) 60 (L2.defBody (topS 41)) = some b__law_pool := by kernel_rfl
-- _law_weighed
def n__law_weighed : List Str := (["hand", "outs", "weights", "out", "weight"] : List Str)
def b__law_weighed : IB := (.cons (.asg (.name 2) (.lc [3] (.call 21 (.cons (.var 0) (.cons (.lst (.cons (.cst (.int 1)) (.cons (.cst (.int 1)) (.cons (.cst (.int 2)) (.cons (.cst (.int 2)) (.cons (.cst (.int 3)) (.cons (.bin .pow (.cst (.int 10)) (.cst (.int 30))) .nil))))))) .nil))) (.name 3) (.seq (.var 1)) .none)) (.cons (.ret (.bi .tuple (.lc [3, 4] (.tup (.cons (.var 3) (.cons (.call 23 (.cons (.var 4) (.cons (.bi .sum (.var 2)) .nil))) .nil))) (.tup (.cons (.name 3) (.cons (.name 4) .nil))) (.zip (.var 1) (.var 2)) .none))) .nil))
def f__law_weighed : FnIR := ⟨2, 5, b__law_weighed⟩
def p__law_weighed : List Str := (["hand", "outs"] : List Str)
theorem t__law_weighed : trB (tcW n__law_weighed 42 []) 60 (L2.defBody (topS 42)) = some b__law_weighed := by kernel_rfl
-- _law_lacking
def n__law_lacking : List Str := (["hand", "outs", "some", "out"] : List Str)
def b__law_lacking : IB := (.cons (.ife (.cmp .eq (.call 20 (.cons (.var 0) (.cons (.cst (.int 2)) .nil))) (.cst (.int 0))) (.cons (.ret (.var 1)) .nil) .nil) (.cons (.asg (.name 2) (.lc [3] (.var 3) (.name 3) (.seq (.var 1)) (.some (.cmp .gt (.call 20 (.cons (.var 0) (.cons (.cst (.int 3)) .nil))) (.cst (.int 0)))))) (.cons (.ret (.ife (.cmp .ne (.var 2) (.lst .nil)) (.var 2) (.slc (.var 1) .none (.some (.cst (.int 1)))))) .nil)))
def f__law_lacking : FnIR := ⟨2, 4, b__law_lacking⟩
def p__law_lacking : List Str := (["hand", "outs"] : List Str)
theorem t__law_lacking : trB (tcW n__law_lacking 43 []) 60 (L2.defBody (topS 43)) = some b__law_lacking := by kernel_rfl
-- _law_bent
def n__law_bent : List Str := (["hand", "told", "some", "told_on", "value", "top", "bottom"] : List Str)
def b__law_bent : IB := (.cons (.asg (.tup (.cons (.tup (.cons (.name 3) (.cons (.name 4) .nil))) (.cons (.tup (.cons (.name 5) (.cons (.name 6) .nil))) .nil))) (.idx (.var 1) (.cst (.int 0)))) (.cons (.asg (.name 2) (.lst (.cons (.cst .non) (.cons (.tup .nil) (.cons (.bi .list (.var 1)) (.cons (.bin .add (.var 1) (.slc (.var 1) .none (.some (.cst (.int 1))))) (.cons (.ife (.cmp .gt (.bi .len (.var 1)) (.cst (.int 1))) (.rev (.var 1)) (.tup (.cons (.var 1) .nil))) (.cons (.idx (.var 1) (.cst (.int 0))) (.cons (.cst (.str "odds")) .nil))))))))) (.cons (.asg (.name 2) (.bin .add (.var 2) (.lst (.cons (.bin .add (.tup (.cons (.tup (.cons (.tup (.cons (.var 3) (.cons (.var 4) .nil))) (.cons (.tup (.cons (.bin .mul (.cst (.int 2)) (.var 5)) (.cons (.bin .mul (.cst (.int 2)) (.var 6)) .nil))) .nil))) .nil)) (.slc (.var 1) (.some (.cst (.int 1))) .none)) (.cons (.bin .add (.tup (.cons (.tup (.cons (.var 3) (.cons (.var 4) .nil))) .nil)) (.slc (.var 1) (.some (.cst (.int 1))) .none)) .nil))))) (.cons (.asg (.name 2) (.bin .add (.var 2) (.lst (.cons (.bin .add (.tup (.cons (.tup (.cons (.tup (.cons (.var 3) (.cons (.cst (.bl true)) .nil))) (.cons (.tup (.cons (.var 5) (.cons (.var 6) .nil))) .nil))) .nil)) (.slc (.var 1) (.some (.cst (.int 1))) .none)) (.cons (.bin .add (.tup (.cons (.tup (.cons (.lst (.cons (.var 4) .nil)) (.cons (.tup (.cons (.var 5) (.cons (.var 6) .nil))) .nil))) .nil)) (.slc (.var 1) (.some (.cst (.int 1))) .none)) .nil))))) (.cons (.asg (.name 2) (.bin .add (.var 2) (.lst (.cons (.ife (.cmp .gt (.bi .len (.var 1)) (.cst (.int 1))) (.slc (.var 1) (.some (.cst (.int 1))) .none) (.tup (.cons (.tup (.cons (.tup .nil) (.cons (.tup (.cons (.cst (.int 1)) (.cons (.cst (.int 1)) .nil))) .nil))) .nil))) (.cons (.bin .add (.tup (.cons (.tup (.cons (.tup (.cons (.var 3) (.cons (.var 4) .nil))) (.cons (.tup (.cons (.cst (.int 0)) (.cons (.cst (.int 1)) .nil))) .nil))) .nil)) (.slc (.var 1) (.some (.cst (.int 1))) .none)) .nil))))) (.cons (.ret (.call 21 (.cons (.var 0) (.cons (.bin .add (.var 2) (.lst (.cons (.tup (.cons (.tup (.cons (.tup (.cons (.tup .nil) (.cons (.cst (.int 0)) .nil))) (.cons (.tup (.cons (.cst (.int 1)) (.cons (.cst (.int 2)) .nil))) .nil))) (.cons (.tup (.cons (.tup (.cons (.tup .nil) (.cons (.cst (.int 1)) .nil))) (.cons (.tup (.cons (.cst (.int 1)) (.cons (.cst (.int 3)) .nil))) .nil))) .nil))) (.cons (.tup (.cons (.tup (.cons (.tup (.cons (.tup .nil) (.cons (.cst (.int 0)) .nil))) (.cons (.tup (.cons (.cst (.int 3)) (.cons (.cst (.int 2)) .nil))) .nil))) (.cons (.tup (.cons (.tup (.cons (.tup .nil) (.cons (.cst (.int 1)) .nil))) (.cons (.tup (.cons (.neg (.cst (.int 1))) (.cons (.cst (.int 2)) .nil))) .nil))) .nil))) .nil)))) .nil)))) .nil))))))
def f__law_bent : FnIR := ⟨2, 7, b__law_bent⟩
def p__law_bent : List Str := (["hand", "told"] : List Str)
theorem t__law_bent : trB (tcW n__law_bent 45 []) 60 (L2.defBody (topS 45)) = some b__law_bent := by kernel_rfl
-- _law_are_lots_right
def n__law_are_lots_right : List Str := (["hand", "one", "other", "x", "lots", "lot", "out", "chance"] : List Str)
def b__law_are_lots_right : IB := (.cons (.asg (.name 4) (.lst (.cons (.tup .nil) .nil))) (.cons (.for (.tup (.cons (.name 6) (.cons (.name 7) .nil))) (.seq (.slc (.var 1) .none (.some (.cst (.int 5))))) (.cons (.asg (.name 4) (.bin .add (.var 4) (.lc [5] (.bin .add (.var 5) (.tup (.cons (.var 6) .nil))) (.name 5) (.seq (.var 4)) .none))) .nil)) (.cons (.for (.name 5) (.seq (.var 4)) (.cons (.ife (.call 26 (.cons (.call 24 (.cons (.call 17 (.cons (.var 2) (.cons (.var 5) .nil))) (.cons (.var 3) .nil))) (.cons (.call 17 (.cons (.var 1) (.cons (.var 5) .nil))) .nil))) (.cons (.ret (.cst (.bl false))) .nil) .nil) .nil)) (.cons (.ret (.cst (.bl true))) .nil))))
def f__law_are_lots_right : FnIR := ⟨4, 8, b__law_are_lots_right⟩
def p__law_are_lots_right : List Str := (["hand", "one", "other", "x"] : List Str)
theorem t__law_are_lots_right : trB (tcW n__law_are_lots_right 46 []) 60 (L2.defBody (topS 46)) = some b__law_are_lots_right := by kernel_rfl
-- _law_are_known_right
def n__law_are_known_right : List Str := (["one", "other", "told", "due", "alone"] : List Str)
def b__law_are_known_right : IB := (.cons (.asg (.name 0) (.tup (.cons (.tup (.cons (.tup (.cons (.tup .nil) (.cons (.cst (.int 0)) .nil))) (.cons (.tup (.cons (.cst (.int 1)) (.cons (.cst (.int 4)) .nil))) .nil))) (.cons (.tup (.cons (.tup (.cons (.tup .nil) (.cons (.cst (.int 1)) .nil))) (.cons (.tup (.cons (.cst (.int 1)) (.cons (.cst (.int 2)) .nil))) .nil))) (.cons (.tup (.cons (.tup (.cons (.tup .nil) (.cons (.cst (.int 2)) .nil))) (.cons (.tup (.cons (.cst (.int 1)) (.cons (.cst (.int 4)) .nil))) .nil))) .nil))))) (.cons (.asg (.name 1) (.tup (.cons (.tup (.cons (.tup (.cons (.tup .nil) (.cons (.cst (.int 0)) .nil))) (.cons (.tup (.cons (.cst (.int 1)) (.cons (.cst (.int 2)) .nil))) .nil))) (.cons (.tup (.cons (.tup (.cons (.tup .nil) (.cons (.cst (.int 1)) .nil))) (.cons (.tup (.cons (.cst (.int 1)) (.cons (.cst (.int 4)) .nil))) .nil))) (.cons (.tup (.cons (.tup (.cons (.tup .nil) (.cons (.cst (.int 2)) .nil))) (.cons (.tup (.cons (.cst (.int 1)) (.cons (.cst (.int 4)) .nil))) .nil))) .nil))))) (.cons (.asg (.name 2) (.lst (.cons (.call 14 (.cons (.var 0) (.cons (.var 1) .nil))) (.cons (.call 16 (.cons (.var 0) (.cons (.var 1) .nil))) (.cons (.call 16 (.cons (.var 1) (.cons (.var 0) .nil))) (.cons (.call 16 (.cons (.var 0) (.cons (.var 0) .nil))) .nil)))))) (.cons (.asg (.name 3) (.lst (.cons (.tup (.cons (.cst (.str "odds")) (.cons (.tup (.cons (.cst (.int 2)) (.cons (.cst (.int 1)) .nil))) (.cons (.tup (.cons (.tup .nil) (.cons (.cst (.int 1)) .nil))) .nil)))) (.cons (.tup (.cons (.cst (.str "odds")) (.cons (.tup (.cons (.cst (.int 2)) (.cons (.cst (.int 1)) .nil))) (.cons (.tup (.cons (.tup .nil) (.cons (.cst (.int 1)) .nil))) (.cons (.cst (.bl false)) .nil))))) (.cons (.tup (.cons (.cst (.str "odds")) (.cons (.tup (.cons (.cst (.int 2)) (.cons (.cst (.int 1)) .nil))) (.cons (.tup (.cons (.tup .nil) (.cons (.cst (.int 0)) .nil))) (.cons (.cst (.bl false)) .nil))))) .nil))))) (.cons (.asg (.name 4) (.tup (.cons (.tup (.cons (.tup (.cons (.tup (.cons (.cst (.int 3)) .nil)) (.cons (.cst (.int 5)) .nil))) (.cons (.tup (.cons (.cst (.int 1)) (.cons (.cst (.int 1)) .nil))) .nil))) .nil))) (.cons (.asg (.name 2) (.bin .add (.var 2) (.lst (.cons (.call 14 (.cons (.var 4) (.cons (.var 0) .nil))) (.cons (.call 16 (.cons (.var 0) (.cons (.var 4) .nil))) (.cons (.call 14 (.cons (.var 4) (.cons (.var 4) .nil))) .nil)))))) (.cons (.asg (.name 3) (.bin .add (.var 3) (.lst (.cons (.tup (.cons (.cst (.str "odds")) (.cons (.tup (.cons (.cst (.int 1)) (.cons (.cst (.int 1)) .nil))) (.cons (.tup (.cons (.tup .nil) (.cons (.cst (.int 0)) .nil))) (.cons (.cst (.bl false)) .nil))))) (.cons (.tup (.cons (.cst (.str "endless")) (.cons (.tup (.cons (.tup (.cons (.cst (.int 3)) .nil)) (.cons (.cst (.int 5)) .nil))) .nil))) (.cons (.tup (.cons (.cst (.str "endless")) (.cons (.tup (.cons (.tup .nil) (.cons (.cst (.int 0)) .nil))) (.cons (.cst (.bl false)) .nil)))) .nil)))))) (.cons (.ret (.call 22 (.cons (.var 2) (.cons (.bin .add (.var 3) (.lst (.cons (.tup (.cons (.cst (.str "odds")) (.cons (.tup (.cons (.cst (.int 1)) (.cons (.cst (.int 1)) .nil))) (.cons (.tup (.cons (.tup (.cons (.cst (.int 3)) .nil)) (.cons (.cst (.int 5)) .nil))) .nil)))) .nil))) .nil)))) .nil))))))))
def f__law_are_known_right : FnIR := ⟨0, 5, b__law_are_known_right⟩
def p__law_are_known_right : List Str := ([] : List Str)
theorem t__law_are_known_right : trB (tcW n__law_are_known_right 47 []) 60 (L2.defBody (topS 47)) = some b__law_are_known_right := by kernel_rfl
-- law
def n_law : List Str := (["script", "hand", "lap", "outs", "due", "factors", "factor", "bad", "odd", "words", "one", "other", "within"] : List Str)
def b_law : IB := (.cons (.asg (.name 1) (.call 19 (.cons (.var 0) .nil))) (.cons (.ife (.not (.call 34 .nil)) (.cons (.ret (.cst (.bl false))) .nil) .nil) (.cons (.for (.name 2) (.range (.cst (.int 5))) (.cons (.asg (.name 3) (.call 29 (.cons (.var 1) .nil))) (.cons (.asg (.tup (.cons (.name 10) (.cons (.name 11) .nil))) (.tup (.cons (.call 30 (.cons (.var 1) (.cons (.call 31 (.cons (.var 1) (.cons (.var 3) .nil))) .nil))) (.cons (.call 30 (.cons (.var 1) (.cons (.call 31 (.cons (.var 1) (.cons (.var 3) .nil))) .nil))) .nil)))) (.cons (.asg (.name 4) (.lst (.cons (.call 27 (.cons (.var 10) (.cons (.var 11) .nil))) (.cons (.call 27 (.cons (.var 11) (.cons (.var 10) .nil))) (.cons (.call 28 (.cons (.var 10) (.cons (.var 11) .nil))) (.cons (.call 28 (.cons (.var 11) (.cons (.var 10) .nil))) .nil)))))) (.cons (.ife (.not (.call 22 (.cons (.lst (.cons (.call 14 (.cons (.var 10) (.cons (.var 11) .nil))) (.cons (.call 14 (.cons (.var 11) (.cons (.var 10) .nil))) (.cons (.call 16 (.cons (.var 10) (.cons (.var 11) .nil))) (.cons (.call 16 (.cons (.var 11) (.cons (.var 10) .nil))) .nil))))) (.cons (.var 4) .nil)))) (.cons (.ret (.cst (.bl false))) .nil) .nil) (.cons (.asg (.name 5) (.bin .add (.lst (.cons (.tup (.cons (.cst (.int 1)) (.cons (.cst (.int 1)) .nil))) (.cons (.tup (.cons (.cst (.int 3)) (.cons (.cst (.int 2)) .nil))) (.cons (.tup (.cons (.cst (.int 2)) (.cons (.cst (.int 1)) .nil))) (.cons (.tup (.cons (.bin .pow (.cst (.int 10)) (.cst (.int 31))) (.cons (.cst (.int 1)) .nil))) .nil))))) (.ife (.cmp .eq (.idx (.idx (.var 4) (.cst (.int 2))) (.cst (.int 0))) (.cst (.str "odds"))) (.lst (.cons (.idx (.idx (.var 4) (.cst (.int 2))) (.cst (.int 1))) .nil)) (.lst .nil)))) (.cons (.for (.name 6) (.seq (.var 5)) (.cons (.asg (.name 12) (.and (.cmp .eq (.idx (.idx (.var 4) (.cst (.int 2))) (.cst (.int 0))) (.cst (.str "odds"))) (.not (.call 26 (.cons (.var 6) (.cons (.idx (.idx (.var 4) (.cst (.int 2))) (.cst (.int 1))) .nil)))))) (.cons (.ife (.not (.call 22 (.cons (.lst (.cons (.call 18 (.cons (.var 10) (.cons (.var 11) (.cons (.var 6) .nil)))) (.cons (.call 18 (.cons (.var 11) (.cons (.var 10) (.cons (.var 6) .nil)))) .nil))) (.cons (.lst (.cons (.var 12) (.cons (.var 12) .nil))) .nil)))) (.cons (.ret (.cst (.bl false))) .nil) .nil) .nil))) (.cons (.ife (.and (.cmp .eq (.idx (.idx (.var 4) (.cst (.int 0))) (.cst (.int 0))) (.cst (.str "odds"))) (.not (.call 33 (.cons (.var 1) (.cons (.var 10) (.cons (.var 11) (.cons (.idx (.idx (.var 4) (.cst (.int 0))) (.cst (.int 1))) .nil))))))) (.cons (.ret (.cst (.bl false))) .nil) .nil) (.cons (.asg (.name 7) (.call 32 (.cons (.var 1) (.cons (.var 10) .nil)))) (.cons (.asg (.name 8) (.call 21 (.cons (.var 1) (.cons (.lst (.cons (.cst .non) (.cons (.tup (.cons (.cst (.int 1)) (.cons (.cst (.int 2)) .nil))) (.cons (.tup (.cons (.cst (.int 2)) (.cons (.cst (.int 4)) .nil))) (.cons (.cst (.int 2)) (.cons (.tup (.cons (.cst (.int 0)) (.cons (.cst (.int 1)) .nil))) (.cons (.tup (.cons (.cst (.bl true)) (.cons (.cst (.int 1)) .nil))) (.cons (.lst (.cons (.cst (.int 2)) (.cons (.cst (.int 1)) .nil))) (.cons (.cst (.str "1")) (.cons (.tup (.cons (.cst (.int 4)) (.cons (.cst (.int 2)) .nil))) .nil)))))))))) .nil)))) (.cons (.asg (.name 9) (.lst (.cons (.lam 0 (.call 14 (.cons (.var 7) (.cons (.var 11) .nil)))) .nil))) (.cons (.expr (.app (.var 9) (.lam 0 (.call 14 (.cons (.var 10) (.cons (.var 7) .nil)))))) (.cons (.expr (.app (.var 9) (.lam 0 (.call 16 (.cons (.var 7) (.cons (.cst .non) .nil)))))) (.cons (.expr (.app (.var 9) (.lam 0 (.call 18 (.cons (.var 10) (.cons (.var 7) (.cons (.var 8) .nil))))))) (.cons (.expr (.app (.var 9) (.lam 0 (.call 18 (.cons (.var 10) (.cons (.var 11) (.cons (.var 8) .nil))))))) (.cons (.ife (.or (.cmp .ne (.var 9) (.bin .add (.bin .mul (.lst (.cons (.cst (.str "chances")) .nil)) (.cst (.int 4))) (.lst (.cons (.cst (.str "factor")) .nil)))) (.or (.cmp .isnot (.call 11 (.cons (.var 7) .nil)) (.cst (.bl false))) (.cmp .isnot (.call 11 (.cons (.var 10) .nil)) (.cst (.bl true))))) (.cons (.ret (.cst (.bl false))) .nil) .nil) .nil)))))))))))))))) (.cons (.ret (.cst (.bl true))) .nil))))
def f_law : FnIR := ⟨1, 13, b_law⟩
def p_law : List Str := (["script"] : List Str)
theorem t_law : trB (tcW n_law 48 tksN) 60 (L2.defBody (topS 48)) = some b_law := by kernel_rfl
def fns : List FnIR := [f_is_integer, f_common, f_is_fraction, f_is_chance, f_is_factor, f_made, f_raw_plus, f_raw_by, f_raw_at_most, f_is_out, f_are_outs, f_are_chances, f_check_chances, f_raw_odds, f_odds, f_raw_both, f_odds_both, f_lot_chance, f_is_within_odds, f__law_hand, f__law_draw, f__law_some, f__law_is, f__law_fr, f__law_times, f__law_over, f__law_less, f__law_odds, f__law_both_odds, f__law_pool, f__law_weighed, f__law_lacking, f__law_bent, f__law_are_lots_right, f__law_are_known_right, f_law]
end Law
end

section
set_option Elab.async false
set_option linter.all false
set_option maxRecDepth 100000
namespace Law
open PySem Ev
def G : List Val := [.tup [.int 0, .int 1], .tup [.int 1, .int 1], .str "odds", .str "endless"]
def lt1 : R Val → R Val
  | .ok _ S => .ok (.str "told") S
  | .err c S => if c = 1 then .ok (.str "chances") S else if c = 3 then .ok (.str "factor") S else if c = 0 ∨ c = 2 then .ok (.str "odd") S else .stuck
  | .stuck => .stuck
def LT : Takers := fun _ => lt1
def WW : Nat := 10 ^ 200
def LV : Nat := 60
/-- what is wanted of the evaluator -/
def LawSays : Prop := ∀ ns : List Int, ns.length ≤ 63 → ∃ S, lev G LT WW fns LV true 35 [.rol (ns.map .int)] [] = .ok (.bl true) S
end Law
end

section
set_option Elab.async false
set_option linter.all false
set_option autoImplicit false
set_option maxRecDepth 100000
/-! Math0: the evaluator's equations, loops kept closed. -/
namespace Law
open PySem Ev
abbrev CC (n : Nat) (g : Bool) : Calls := lev G LT WW fns n g
section
variable {k : Nat} {g : Bool} {S : Store} {q : Ev.Ctx} {e : Ev.Env}
theorem bind_ok {α β : Type} (a : α) (f : α → Store → R β) : (R.ok a S).bind f = f a S := rfl
theorem bind_err {α β : Type} (c : Nat) (f : α → Store → R β) : (R.err c S : R α).bind f = .err c S := rfl
theorem toF_ok {α : Type} (a : α) (f : α → Store → F) : (R.ok a S).toF e f = f a S := rfl
theorem toF_err {α : Type} (c : Nat) (f : α → Store → F) : (R.err c S : R α).toF e f = .err c e S := rfl
theorem fbind_next (f : Ev.Env → Store → F) : (F.next e S).bind f = f e S := rfl
theorem fbind_ret (v : Val) (f : Ev.Env → Store → F) : (F.ret v S).bind f = .ret v S := rfl
theorem fbind_err (c : Nat) (f : Ev.Env → Store → F) : (F.err c e S).bind f = .err c e S := rfl
theorem asB_ok (b : Bool) : asB (.ok (.bl b) S) = .ok b S := rfl
theorem asI_ok (i : Int) : asI (.ok (.int i) S) = .ok i S := rfl
theorem asB_err (c : Nat) : asB (.err c S) = .err c S := rfl
theorem truth_ok (b : Bool) (f : Bool → Store → R Val) : truth (.ok (.bl b) S) f = f b S := rfl
theorem truth_err (c : Nat) (f : Bool → Store → R Val) : truth (.err c S) f = .err c S := rfl
theorem e_cst (v : Val) : evE G LT (.cst v) q e S = .ok v S := rfl
theorem e_glb0 : evE G LT (.glb 0) q e S = .ok (.tup [.int 0, .int 1]) S := rfl
theorem e_glb1 : evE G LT (.glb 1) q e S = .ok (.tup [.int 1, .int 1]) S := rfl
theorem e_glb2 : evE G LT (.glb 2) q e S = .ok (.str "odds") S := rfl
theorem e_glb3 : evE G LT (.glb 3) q e S = .ok (.str "endless") S := rfl
theorem e_var (i : Nat) : evE G LT (.var i) q e S = (match e[i]? with | some (some v) => .ok v S | _ => .stuck) := rfl
theorem e_tup (es : IEs) : evE G LT (.tup es) q e S = (evL G LT es q e S).bind fun vs S => if vs.length ≤ cap then .ok (.tup vs) S else .stuck := rfl
theorem e_lst (es : IEs) : evE G LT (.lst es) q e S = (evL G LT es q e S).bind fun vs S => if vs.length ≤ cap then alloc (.lst vs) S else .stuck := rfl
theorem e_dnew : evE G LT .dnew q e S = alloc (.dic []) S := rfl
theorem e_bin (o : Op2) (a b : IE) : evE G LT (.bin o a b) q e S = (evE G LT a q e S).bind fun x S => (evE G LT b q e S).bind fun y S => binop o x y S := rfl
theorem e_neg (a : IE) : evE G LT (.neg a) q e S = (asI (evE G LT a q e S)).bind fun i S => .ok (.int (-i)) S := rfl
theorem e_not (a : IE) : evE G LT (.not a) q e S = truth (evE G LT a q e S) fun b S => .ok (.bl (!b)) S := rfl
theorem e_and (a b : IE) : evE G LT (.and a b) q e S = truth (evE G LT a q e S) fun c S => if c = true then evE G LT b q e S else .ok (.bl false) S := rfl
theorem e_or (a b : IE) : evE G LT (.or a b) q e S = truth (evE G LT a q e S) fun c S => if c = true then .ok (.bl true) S else evE G LT b q e S := rfl
theorem e_cmp (o : Cm) (a b : IE) : evE G LT (.cmp o a b) q e S = (evE G LT a q e S).bind fun x S => (evE G LT b q e S).bind fun y S => cmpop o x y S := rfl
theorem e_chn (o o' : Cm) (a b c : IE) : evE G LT (.chn o o' a b c) q e S = (evE G LT a q e S).bind fun x S => (evE G LT b q e S).bind fun y S => truth (cmpop o x y S) fun t S =>
      if t = true then (evE G LT c q e S).bind fun z S => cmpop o' y z S else .ok (.bl false) S := rfl
theorem e_ife (c a b : IE) : evE G LT (.ife c a b) q e S = truth (evE G LT c q e S) fun t S => if t = true then evE G LT a q e S else evE G LT b q e S := rfl
theorem e_idx (a b : IE) : evE G LT (.idx a b) q e S = (evE G LT a q e S).bind fun x S => (evE G LT b q e S).bind fun y S => idxop x y S := rfl
theorem e_slc (a : IE) (lo hi : IO) : evE G LT (.slc a lo hi) q e S = (evE G LT a q e S).bind fun x S => (evO G LT lo q e S).bind fun l S => (evO G LT hi q e S).bind fun h S => slcop x l h S := rfl
theorem e_rev (a : IE) : evE G LT (.rev a) q e S = (evE G LT a q e S).bind fun x S => revop x S := rfl
theorem e_call (f : Nat) (es : IEs) : evE G LT (.call f es) q e S = (evL G LT es q e S).bind fun vs S => q.C f vs S := rfl
theorem e_bi (b : BI) (a : IE) : evE G LT (.bi b a) q e S = (evE G LT a q e S).bind fun x S => biop q.gd b x S := rfl
theorem e_isi (a : IE) (t : Ty) : evE G LT (.isi a t) q e S = (evE G LT a q e S).bind fun x S => isiop t x S := rfl
theorem e_app (a b : IE) : evE G LT (.app a b) q e S = (evE G LT a q e S).bind fun x S => if isLst S x = true then (evE G LT b q e S).bind fun y S => appop x y S else .stuck := rfl
theorem e_get2 (d a x : IE) : evE G LT (.get2 d a x) q e S = (evE G LT d q e S).bind fun u S => if isDic S u = true then (evE G LT a q e S).bind fun v S => (evE G LT x q e S).bind fun w S => get2op u v w S else .stuck := rfl
theorem e_lam (t : Nat) (b : IE) : evE G LT (.lam t b) q e S = lt1 (evE G LT b q.lam e S) := rfl
/-- a comprehension's loop, closed -/
def LC (q : Ev.Ctx) (own : List Nat) (elt : IE) (tg : Tg) (c : IO) (e : Ev.Env) (src : Src) (f i : Nat) (acc : List Val) (S : Store) : R (List Val) :=
  lcLoop src (fun v S => match setT tg v (wipeE e own) with
        | none => .stuck
        | some e2 => match evC G LT c q e2 S with
          | .ok true S => toOpt (evE G LT elt q e2 S)
          | .ok false S => .ok none S
          | .err c S => .err c S
          | .stuck => .stuck) f i acc S
def lcEnd (r : R (List Val)) : R Val := match r with
  | .ok acc S2 => alloc (.lst acc) S2
  | .err _ _ => .stuck
  | .stuck => .stuck
def lcStart (q : Ev.Ctx) (own : List Nat) (elt : IE) (tg : Tg) (c : IO) (e : Ev.Env) (r : R Src) : R Val := match r with
  | .ok src S1 => if tgOk src tg = false then .stuck else lcEnd (LC q own elt tg c e src (src.len S1 + 1) 0 [] S1)
  | .err _ _ => .stuck
  | .stuck => .stuck
theorem e_lc (own : List Nat) (elt : IE) (tg : Tg) (it : II) (c : IO) : evE G LT (.lc own elt tg it c) q e S = lcStart q own elt tg c e (evI G LT it q e S) := rfl
theorem l_nil : evL G LT .nil q e S = .ok [] S := rfl
theorem l_cons (x : IE) (es : IEs) : evL G LT (.cons x es) q e S = (evE G LT x q e S).bind fun v S => (evL G LT es q e S).bind fun vs S => .ok (v :: vs) S := rfl
theorem o_none : evO G LT .none q e S = .ok none S := rfl
theorem o_some (x : IE) : evO G LT (.some x) q e S = (asI (evE G LT x q e S)).bind fun i S => .ok (some i) S := rfl
theorem i_seq (x : IE) : evI G LT (.seq x) q e S = (evE G LT x q e S).bind fun v S => seqop v S := rfl
theorem i_range (x : IE) : evI G LT (.range x) q e S = (asI (evE G LT x q e S)).bind fun i S => rngop i S := rfl
theorem i_zip (a b : IE) : evI G LT (.zip a b) q e S = (evE G LT a q e S).bind fun x S => (evE G LT b q e S).bind fun y S => zipop x y S := rfl
def WLp (q : Ev.Ctx) (c : IE) (b : IB) (f : Nat) (e : Ev.Env) (S : Store) : F := whileLoop (fun e S => asB (evE G LT c q e S)) (evB G LT WW q b) f e S
def FLp (q : Ev.Ctx) (t : Tg) (b : IB) (src : Src) (f i : Nat) (e : Ev.Env) (S : Store) : F := forLoop src t (evB G LT WW q b) f i e S
theorem s_asg (t : Tg) (x : IE) : evS G LT WW q (.asg t x) e S = (evE G LT x q e S).toF e fun v S => match setT t v e with | some e => .next e S | none => .stuck := rfl
theorem s_par (i j : Nat) (a b : IE) : evS G LT WW q (.par i j a b) e S = (evE G LT a q e S).toF e fun x S => (evE G LT b q e S).toF e fun y S => if i < e.length ∧ j < e.length then .next ((e.set i (some x)).set j (some y)) S else .stuck := rfl
theorem s_sub (o k' x : IE) : evS G LT WW q (.sub o k' x) e S = (evE G LT x q e S).toF e fun v S => (evE G LT o q e S).toF e fun ov S => (evE G LT k' q e S).toF e fun kv S => match setop ov kv v S with
    | some S => .next e S
    | none => .stuck := rfl
theorem s_ret (x : IE) : evS G LT WW q (.ret x) e S = (evE G LT x q e S).toF e fun v S => .ret v S := rfl
theorem s_expr (x : IE) : evS G LT WW q (.expr x) e S = (evE G LT x q e S).toF e fun _ S => .next e S := rfl
theorem s_ife (c : IE) (a b : IB) : evS G LT WW q (.ife c a b) e S = (asB (evE G LT c q e S)).toF e fun t S => if t = true then evB G LT WW q a e S else evB G LT WW q b e S := rfl
theorem s_whl (c : IE) (b : IB) : evS G LT WW q (.whl c b) e S = WLp q c b WW e S := rfl
theorem s_for (t : Tg) (it : II) (b : IB) : evS G LT WW q (.for t it b) e S = (evI G LT it q e S).toF e fun src S => if tgOk src t = false then .stuck else FLp q t b src (src.len S + 1) 0 e S := rfl
theorem s_raise (c : Nat) : evS G LT WW q (.raise c) e S = .err c e S := rfl
theorem s_pass : evS G LT WW q .pass e S = .next e S := rfl
theorem b_nil : evB G LT WW q .nil e S = .next e S := rfl
theorem b_cons (s : IS) (b : IB) : evB G LT WW q (.cons s b) e S = (evS G LT WW q s e S).bind fun e S => evB G LT WW q b e S := rfl
theorem set_name (i : Nat) (v : Val) : setT (.name i) v e = if i < e.length then some (e.set i (some v)) else none := rfl
theorem set_tup (ts : Tgs) (vs : List Val) : setT (.tup ts) (.tup vs) e = setTs ts vs e := rfl
theorem set_nil : setTs .nil [] e = some e := rfl
theorem set_cons (t : Tg) (ts : Tgs) (v : Val) (vs : List Val) : setTs (.cons t ts) (v :: vs) e = (match setT t v e with | some e' => setTs ts vs e' | none => none) := rfl
/-- the end of a def -/
def fend (r : F) : R Val := match r with
  | .next _ S => .ok .non S
  | .ret v S => .ok v S
  | .err c _ S => .err c S
  | _ => .stuck
theorem fend_next : fend (.next e S) = .ok .non S := rfl
theorem fend_ret (v : Val) : fend (.ret v S) = .ok v S := rfl
theorem fend_err (c : Nat) : fend (.err c e S) = .err c S := rfl
theorem run_fn (np nn : Nat) (body : IB) (args : List Val) (h : args.length = np) : runFn G LT WW q ⟨np, nn, body⟩ args S = fend (evB G LT WW q body (args.map some ++ List.replicate (nn - args.length) none) S) := by
  unfold runFn
  rw [if_pos h]
  rfl
theorem C_at {f : Nat} {np nn : Nat} {body : IB} {args : List Val} (h : fns[f]? = some ⟨np, nn, body⟩) (ha : args.length = np) :
    CC (k + 3) g f args S = fend (evB G LT WW ⟨CC (k + 2) g, CC k false, g⟩ body (args.map some ++ List.replicate (nn - args.length) none) S) := by
  show (match fns[f]? with | some d => runFn G LT WW ⟨CC (k + 2) g, CC k false, g⟩ d args S | none => .stuck) = _
  rw [h]
  exact run_fn np nn body args ha
/-! operations on ints -/
theorem ne_ii (a b : Int) : cmpop .ne (.int a) (.int b) S = .ok (.bl (!(a == b))) S := rfl
theorem eq_ii (a b : Int) : cmpop .eq (.int a) (.int b) S = .ok (.bl (a == b)) S := rfl
theorem lt_ii (a b : Int) : cmpop .lt (.int a) (.int b) S = .ok (.bl (decide (a < b))) S := rfl
theorem le_ii (a b : Int) : cmpop .le (.int a) (.int b) S = .ok (.bl (decide (a ≤ b))) S := rfl
theorem gt_ii (a b : Int) : cmpop .gt (.int a) (.int b) S = .ok (.bl (decide (b < a))) S := rfl
theorem ge_ii (a b : Int) : cmpop .ge (.int a) (.int b) S = .ok (.bl (decide (b ≤ a))) S := rfl
theorem add_ii (a b : Int) : binop .add (.int a) (.int b) S = .ok (.int (a + b)) S := rfl
theorem sub_ii (a b : Int) : binop .sub (.int a) (.int b) S = .ok (.int (a - b)) S := rfl
theorem mul_ii {a b : Int} (h : a.natAbs.log2 + b.natAbs.log2 < 1000000) : binop .mul (.int a) (.int b) S = .ok (.int (a * b)) S := by
  show (if a.natAbs.log2 + b.natAbs.log2 < 1000000 then R.ok (Val.int (a * b)) S else .stuck) = _
  rw [if_pos h]
theorem mod_ii {a b : Int} (h : 0 < b) : binop .mod (.int a) (.int b) S = .ok (.int (a % b)) S := by
  show (if 0 < b then R.ok (Val.int (a % b)) S else .stuck) = _
  rw [if_pos h]
theorem fdiv_ii {a b : Int} (h : 0 < b) (h2 : b.natAbs.log2 < 9000) : binop .fdiv (.int a) (.int b) S = .ok (.int (a / b)) S := by
  show (if 0 < b ∧ b.natAbs.log2 < 9000 then R.ok (Val.int (a / b)) S else .stuck) = _
  rw [if_pos ⟨h, h2⟩]
theorem int_i (b : Bool) (a : Int) : biop b .int (.int a) S = .ok (.int a) S := rfl
theorem abs_i (b : Bool) (a : Int) : biop b .abs (.int a) S = .ok (.int a.natAbs) S := rfl
theorem len_t (b : Bool) (vs : List Val) : biop b .len (.tup vs) S = .ok (.int vs.length) S := rfl
theorem isi_int (i : Int) : isiop .int (.int i) S = .ok (.bl true) S := rfl
theorem isi_int_b (i : Int) : isiop .bool (.int i) S = .ok (.bl false) S := rfl
theorem isi_tt (vs : List Val) : isiop .tuple (.tup vs) S = .ok (.bl true) S := rfl
theorem isi_it (i : Int) : isiop .tuple (.int i) S = .ok (.bl false) S := rfl
theorem ix0 (a : Val) (l : List Val) : idxop (.tup (a :: l)) (.int 0) S = .ok a S := by
  show (match L2.atI (a :: l) 0 with | some v => R.ok v S | none => .stuck) = _
  have : L2.atI (a :: l) 0 = some a := by
    unfold L2.atI L2.ixN
    have h : (0 : Int) < ((a :: l).length : Int) := by rw [List.length_cons]; omega
    simp
  rw [this]
theorem ix1 (a b : Val) (l : List Val) : idxop (.tup (a :: b :: l)) (.int 1) S = .ok b S := by
  show (match L2.atI (a :: b :: l) 1 with | some v => R.ok v S | none => .stuck) = _
  have : L2.atI (a :: b :: l) 1 = some b := by
    unfold L2.atI L2.ixN
    simp
    rw [if_pos (by omega)]
    rfl
  rw [this]
end
end Law
end

section
set_option Elab.async false
set_option linter.all false
set_option autoImplicit false
set_option maxRecDepth 100000
namespace Law
open PySem Ev
section
variable {k : Nat} {g : Bool} {S : Store} {q : Ev.Ctx} {e : Ev.Env}
theorem is_integer_int (i : Int) : CC (k + 3) g 0 [.int i] S = .ok (.bl true) S := rfl
theorem is_integer_bl (b : Bool) : CC (k + 3) g 0 [.bl b] S = .ok (.bl false) S := rfl
theorem is_integer_tup (vs : List Val) : CC (k + 3) g 0 [.tup vs] S = .ok (.bl false) S := rfl
/-- one lap's end -/
def wEnd (q : Ev.Ctx) (c : IE) (b : IB) (f : Nat) (r : F) : F := match r with
  | .next e S => WLp q c b f e S
  | .cont e S => WLp q c b f e S
  | .brk e S => .next e S
  | .ret v S => .ret v S
  | .err c e S => .err c e S
  | .stuck => .stuck
theorem wEnd_next (c : IE) (b : IB) (f : Nat) : wEnd q c b f (.next e S) = WLp q c b f e S := rfl
theorem wEnd_ret (c : IE) (b : IB) (f : Nat) (v : Val) : wEnd q c b f (.ret v S) = .ret v S := rfl
theorem wEnd_err (c : IE) (b : IB) (f : Nat) (n : Nat) : wEnd q c b f (.err n e S) = .err n e S := rfl
theorem WLp_succ (c : IE) (b : IB) (f : Nat) : WLp q c b (f + 1) e S = (asB (evE G LT c q e S)).toF e fun t S => if t = true then wEnd q c b f (evB G LT WW q b e S) else .next e S := rfl
theorem gcd_loop : ∀ (f x y : Nat), y < f → WLp q (.cmp .ne (.var 1) (.cst (.int 0))) (.cons (.par 0 1 (.var 1) (.bin .mod (.bi .int (.var 0)) (.var 1))) .nil) f [some (.int x), some (.int y)] S = .next [some (.int (Nat.gcd x y)), some (.int 0)] S
  | 0, x, y, h => absurd h (Nat.not_lt_zero y)
  | f + 1, x, y, h => by
    rw [WLp_succ]
    by_cases hy : y = 0
    · subst hy
      rw [Nat.gcd_zero_right]
      rfl
    · have e1 : (((y : Int) == 0)) = false := by simpa using hy
      have ih := gcd_loop f y (x % y) (by have := Nat.mod_lt x (Nat.pos_of_ne_zero hy); omega)
      have eg : Nat.gcd x y = Nat.gcd y (x % y) := by rw [Nat.gcd_comm x y, Nat.gcd_rec y x, Nat.gcd_comm]
      rw [eg, ← ih]
      simp only [b_cons, b_nil, s_asg, s_par, s_sub, s_ret, s_expr, s_ife, s_whl, s_for, s_raise, s_pass, e_cst, e_glb0, e_glb1, e_glb2, e_glb3, e_var, e_tup, e_lst, e_dnew, e_bin, e_neg, e_not, e_and, e_or, e_cmp, e_chn, e_ife, e_idx, e_slc, e_rev, e_call, e_bi, e_isi, e_app, e_get2, e_lam, e_lc, l_nil, l_cons, o_none, o_some, i_seq, i_range, i_zip, bind_ok, bind_err, toF_ok, toF_err, fbind_next, fbind_ret, fbind_err, asB_ok, asI_ok, asB_err, truth_ok, truth_err, set_name, set_tup, set_nil, set_cons, fend_next, fend_ret, fend_err, List.length_cons, List.length_nil, List.length_set, List.map_cons, List.map_nil, List.cons_append, List.nil_append, List.getElem?_cons_zero, List.getElem?_cons_succ, List.set_cons_zero, List.set_cons_succ, if_true, if_false, Bool.false_eq_true, Bool.not_true, Bool.not_false, reduceIte, and_self, Nat.reduceAdd, Nat.reduceLT, Nat.reduceLeDiff, Nat.reduceSub, Nat.reduceEqDiff, List.replicate_succ, List.replicate_zero, wEnd_next, ne_ii, e1, int_i, mod_ii (show (0 : Int) < (y : Int) by omega)]
      rfl
theorem common_ok (x y : Nat) (h : y < WW) : CC (k + 3) g 1 [.int x, .int y] S = .ok (.int (Nat.gcd x y)) S := by
  rw [C_at (np := 2) (nn := 2) (body := b_common) rfl rfl]
  simp only [b_cons, b_nil, s_asg, s_par, s_sub, s_ret, s_expr, s_ife, s_whl, s_for, s_raise, s_pass, e_cst, e_glb0, e_glb1, e_glb2, e_glb3, e_var, e_tup, e_lst, e_dnew, e_bin, e_neg, e_not, e_and, e_or, e_cmp, e_chn, e_ife, e_idx, e_slc, e_rev, e_call, e_bi, e_isi, e_app, e_get2, e_lam, e_lc, l_nil, l_cons, o_none, o_some, i_seq, i_range, i_zip, bind_ok, bind_err, toF_ok, toF_err, fbind_next, fbind_ret, fbind_err, asB_ok, asI_ok, asB_err, truth_ok, truth_err, set_name, set_tup, set_nil, set_cons, fend_next, fend_ret, fend_err, List.length_cons, List.length_nil, List.length_set, List.map_cons, List.map_nil, List.cons_append, List.nil_append, List.getElem?_cons_zero, List.getElem?_cons_succ, List.set_cons_zero, List.set_cons_succ, if_true, if_false, Bool.false_eq_true, Bool.not_true, Bool.not_false, reduceIte, and_self, Nat.reduceAdd, Nat.reduceLT, Nat.reduceLeDiff, Nat.reduceSub, Nat.reduceEqDiff, List.replicate_succ, List.replicate_zero, b_common, gcd_loop WW x y h, Nat.sub_self]
/-- in lowest terms -/
def red (a : Int) (b : Nat) : Int × Int := (a / (Nat.gcd a.natAbs b : Int), (b : Int) / (Nat.gcd a.natAbs b : Int))
def fV (x : Int × Int) : Val := .tup [.int x.1, .int x.2]
theorem log_lt {a : Int} {n : Nat} (h : a.natAbs < 2 ^ n) (hn : 0 < n) : a.natAbs.log2 < n := by
  by_cases h0 : a.natAbs = 0
  · rw [h0]
    simpa using hn
  · exact (Nat.log2_lt h0).mpr h
theorem gcd_pos {a b : Nat} (h : 0 < b) : 0 < Nat.gcd a b := Nat.gcd_pos_of_pos_right a h
theorem WW_lt : WW < 2 ^ 700 := of_decide_eq_true rfl
theorem log_W {b : Nat} (h : b < WW) : ((b : Nat) : Int).natAbs.log2 < 9000 := Nat.lt_trans (log_lt (n := 700) (by rw [Int.natAbs_natCast]; exact Nat.lt_trans h WW_lt) (by decide)) (by decide)
theorem made_ok (a : Int) (b : Nat) (hb : 0 < b) (h : b < WW) : CC (k + 4) g 5 [.int a, .int b] S = .ok (fV (red a b)) S := by
  rw [C_at (k := k + 1) (np := 2) (nn := 3) (body := b_made) rfl rfl]
  have hc := common_ok (k := k) (g := g) (S := S) a.natAbs b h
  have e1 : (((b : Nat) : Int).natAbs) = b := Int.natAbs_natCast b
  have e2 : decide ((b : Int) < 0) = false := by simp
  have hg := gcd_pos (a := a.natAbs) hb
  have hg2 : Nat.gcd a.natAbs b < WW := Nat.lt_of_le_of_lt (Nat.gcd_le_right a.natAbs hb) h
  simp only [b_cons, b_nil, s_asg, s_par, s_sub, s_ret, s_expr, s_ife, s_whl, s_for, s_raise, s_pass, e_cst, e_glb0, e_glb1, e_glb2, e_glb3, e_var, e_tup, e_lst, e_dnew, e_bin, e_neg, e_not, e_and, e_or, e_cmp, e_chn, e_ife, e_idx, e_slc, e_rev, e_call, e_bi, e_isi, e_app, e_get2, e_lam, e_lc, l_nil, l_cons, o_none, o_some, i_seq, i_range, i_zip, bind_ok, bind_err, toF_ok, toF_err, fbind_next, fbind_ret, fbind_err, asB_ok, asI_ok, asB_err, truth_ok, truth_err, set_name, set_tup, set_nil, set_cons, fend_next, fend_ret, fend_err, List.length_cons, List.length_nil, List.length_set, List.map_cons, List.map_nil, List.cons_append, List.nil_append, List.getElem?_cons_zero, List.getElem?_cons_succ, List.set_cons_zero, List.set_cons_succ, if_true, if_false, Bool.false_eq_true, Bool.not_true, Bool.not_false, reduceIte, and_self, Nat.reduceAdd, Nat.reduceLT, Nat.reduceLeDiff, Nat.reduceSub, Nat.reduceEqDiff, List.replicate_succ, List.replicate_zero, b_made, abs_i, e1, hc, lt_ii, e2, fdiv_ii (show (0 : Int) < ((Nat.gcd a.natAbs b : Nat) : Int) by omega) (log_W hg2)]
  rfl
theorem len2 (a b : Val) : biop g .len (.tup [a, b]) S = .ok (.int 2) S := rfl
/-- a fraction in lowest terms with a bottom below the bound -/
def Fr (x : Int × Int) : Prop := 0 < x.2 ∧ x.2.natAbs < WW ∧ Nat.gcd x.1.natAbs x.2.natAbs = 1
theorem is_fraction_ok (x : Int × Int) (h : Fr x) : CC (k + 4) g 2 [fV x] S = .ok (.bl true) S := by
  obtain ⟨a, b⟩ := x
  obtain ⟨h1, h2, h3⟩ := h
  simp only at h1 h2 h3
  rw [C_at (k := k + 1) (np := 1) (nn := 1) (body := b_is_fraction) rfl rfl]
  have eb : b = ((b.natAbs : Nat) : Int) := by omega
  have hc := common_ok (k := k) (g := g) (S := S) a.natAbs b.natAbs h2
  rw [← eb, h3] at hc
  have e1 : decide ((0 : Int) < b) = true := by simpa using h1
  simp only [b_cons, b_nil, s_asg, s_par, s_sub, s_ret, s_expr, s_ife, s_whl, s_for, s_raise, s_pass, e_cst, e_glb0, e_glb1, e_glb2, e_glb3, e_var, e_tup, e_lst, e_dnew, e_bin, e_neg, e_not, e_and, e_or, e_cmp, e_chn, e_ife, e_idx, e_slc, e_rev, e_call, e_bi, e_isi, e_app, e_get2, e_lam, e_lc, l_nil, l_cons, o_none, o_some, i_seq, i_range, i_zip, bind_ok, bind_err, toF_ok, toF_err, fbind_next, fbind_ret, fbind_err, asB_ok, asI_ok, asB_err, truth_ok, truth_err, set_name, set_tup, set_nil, set_cons, fend_next, fend_ret, fend_err, List.length_cons, List.length_nil, List.length_set, List.map_cons, List.map_nil, List.cons_append, List.nil_append, List.getElem?_cons_zero, List.getElem?_cons_succ, List.set_cons_zero, List.set_cons_succ, if_true, if_false, Bool.false_eq_true, Bool.not_true, Bool.not_false, reduceIte, and_self, Nat.reduceAdd, Nat.reduceLT, Nat.reduceLeDiff, Nat.reduceSub, Nat.reduceEqDiff, List.replicate_succ, List.replicate_zero, b_is_fraction, fV, isi_tt, len2, beq_self_eq_true, ne_ii, eq_ii, gt_ii, ix0, ix1, is_integer_int, abs_i, hc, e1]
  rfl
theorem is_chance_ok (x : Int × Int) (h : Fr x) : CC (k + 5) g 3 [fV x] S = .ok (.bl (decide (0 ≤ x.1) && decide (x.1 ≤ x.2))) S := by
  rw [C_at (k := k + 2) (np := 1) (nn := 1) (body := b_is_chance) rfl rfl]
  have hc := is_fraction_ok (k := k) (g := g) (S := S) x h
  simp only [b_cons, b_nil, s_asg, s_par, s_sub, s_ret, s_expr, s_ife, s_whl, s_for, s_raise, s_pass, e_cst, e_glb0, e_glb1, e_glb2, e_glb3, e_var, e_tup, e_lst, e_dnew, e_bin, e_neg, e_not, e_and, e_or, e_cmp, e_chn, e_ife, e_idx, e_slc, e_rev, e_call, e_bi, e_isi, e_app, e_get2, e_lam, e_lc, l_nil, l_cons, o_none, o_some, i_seq, i_range, i_zip, bind_ok, bind_err, toF_ok, toF_err, fbind_next, fbind_ret, fbind_err, asB_ok, asI_ok, asB_err, truth_ok, truth_err, set_name, set_tup, set_nil, set_cons, fend_next, fend_ret, fend_err, List.length_cons, List.length_nil, List.length_set, List.map_cons, List.map_nil, List.cons_append, List.nil_append, List.getElem?_cons_zero, List.getElem?_cons_succ, List.set_cons_zero, List.set_cons_succ, if_true, if_false, Bool.false_eq_true, Bool.not_true, Bool.not_false, reduceIte, and_self, Nat.reduceAdd, Nat.reduceLT, Nat.reduceLeDiff, Nat.reduceSub, Nat.reduceEqDiff, List.replicate_succ, List.replicate_zero, b_is_chance, hc]
  simp only [b_cons, b_nil, s_asg, s_par, s_sub, s_ret, s_expr, s_ife, s_whl, s_for, s_raise, s_pass, e_cst, e_glb0, e_glb1, e_glb2, e_glb3, e_var, e_tup, e_lst, e_dnew, e_bin, e_neg, e_not, e_and, e_or, e_cmp, e_chn, e_ife, e_idx, e_slc, e_rev, e_call, e_bi, e_isi, e_app, e_get2, e_lam, e_lc, l_nil, l_cons, o_none, o_some, i_seq, i_range, i_zip, bind_ok, bind_err, toF_ok, toF_err, fbind_next, fbind_ret, fbind_err, asB_ok, asI_ok, asB_err, truth_ok, truth_err, set_name, set_tup, set_nil, set_cons, fend_next, fend_ret, fend_err, List.length_cons, List.length_nil, List.length_set, List.map_cons, List.map_nil, List.cons_append, List.nil_append, List.getElem?_cons_zero, List.getElem?_cons_succ, List.set_cons_zero, List.set_cons_succ, if_true, if_false, Bool.false_eq_true, Bool.not_true, Bool.not_false, reduceIte, and_self, Nat.reduceAdd, Nat.reduceLT, Nat.reduceLeDiff, Nat.reduceSub, Nat.reduceEqDiff, List.replicate_succ, List.replicate_zero, fV, le_ii, ix0, ix1]
  by_cases h0 : 0 ≤ x.1
  · simp only [b_cons, b_nil, s_asg, s_par, s_sub, s_ret, s_expr, s_ife, s_whl, s_for, s_raise, s_pass, e_cst, e_glb0, e_glb1, e_glb2, e_glb3, e_var, e_tup, e_lst, e_dnew, e_bin, e_neg, e_not, e_and, e_or, e_cmp, e_chn, e_ife, e_idx, e_slc, e_rev, e_call, e_bi, e_isi, e_app, e_get2, e_lam, e_lc, l_nil, l_cons, o_none, o_some, i_seq, i_range, i_zip, bind_ok, bind_err, toF_ok, toF_err, fbind_next, fbind_ret, fbind_err, asB_ok, asI_ok, asB_err, truth_ok, truth_err, set_name, set_tup, set_nil, set_cons, fend_next, fend_ret, fend_err, List.length_cons, List.length_nil, List.length_set, List.map_cons, List.map_nil, List.cons_append, List.nil_append, List.getElem?_cons_zero, List.getElem?_cons_succ, List.set_cons_zero, List.set_cons_succ, if_true, if_false, Bool.false_eq_true, Bool.not_true, Bool.not_false, reduceIte, and_self, Nat.reduceAdd, Nat.reduceLT, Nat.reduceLeDiff, Nat.reduceSub, Nat.reduceEqDiff, List.replicate_succ, List.replicate_zero, h0, decide_true, Bool.true_and]
  · simp only [b_cons, b_nil, s_asg, s_par, s_sub, s_ret, s_expr, s_ife, s_whl, s_for, s_raise, s_pass, e_cst, e_glb0, e_glb1, e_glb2, e_glb3, e_var, e_tup, e_lst, e_dnew, e_bin, e_neg, e_not, e_and, e_or, e_cmp, e_chn, e_ife, e_idx, e_slc, e_rev, e_call, e_bi, e_isi, e_app, e_get2, e_lam, e_lc, l_nil, l_cons, o_none, o_some, i_seq, i_range, i_zip, bind_ok, bind_err, toF_ok, toF_err, fbind_next, fbind_ret, fbind_err, asB_ok, asI_ok, asB_err, truth_ok, truth_err, set_name, set_tup, set_nil, set_cons, fend_next, fend_ret, fend_err, List.length_cons, List.length_nil, List.length_set, List.map_cons, List.map_nil, List.cons_append, List.nil_append, List.getElem?_cons_zero, List.getElem?_cons_succ, List.set_cons_zero, List.set_cons_succ, if_true, if_false, Bool.false_eq_true, Bool.not_true, Bool.not_false, reduceIte, and_self, Nat.reduceAdd, Nat.reduceLT, Nat.reduceLeDiff, Nat.reduceSub, Nat.reduceEqDiff, List.replicate_succ, List.replicate_zero, h0, decide_false, Bool.false_and]
end
end Law
end

section
set_option Elab.async false
set_option linter.all false
set_option autoImplicit false
set_option maxRecDepth 100000
namespace Law
open PySem Ev
section
variable {k : Nat} {g : Bool} {S : Store} {q : Ev.Ctx} {e : Ev.Env}
/-- in lowest terms, of whole numbers with a bottom above 0 -/
def rd (a b : Int) : Int × Int := red a b.natAbs
theorem made_rd (a b : Int) (hb : 0 < b) (h : b.natAbs < WW) : CC (k + 4) g 5 [.int a, .int b] S = .ok (fV (rd a b)) S := by
  have hm := made_ok (k := k) (g := g) (S := S) a b.natAbs (by omega) h
  have eb : ((b.natAbs : Nat) : Int) = b := by omega
  rw [eb] at hm
  exact hm
/-- no long figures -/
abbrev Sh (a : Int) : Prop := a.natAbs < 10 ^ 98
theorem sh_log {a : Int} (h : Sh a) : a.natAbs.log2 < 500000 := Nat.lt_trans (log_lt (n := 330) (Nat.lt_trans h (by decide)) (by decide)) (by decide)
theorem mul_sh {a b : Int} (ha : Sh a) (hb : Sh b) : binop .mul (.int a) (.int b) S = .ok (.int (a * b)) S := mul_ii (by have := sh_log ha; have := sh_log hb; omega)
theorem sh_mul_W {a b : Int} (ha : Sh a) (hb : Sh b) : (a * b).natAbs < WW := by
  rw [Int.natAbs_mul]
  have h1 : a.natAbs * b.natAbs ≤ 10 ^ 98 * 10 ^ 98 := Nat.mul_le_mul (Nat.le_of_lt ha) (Nat.le_of_lt hb)
  exact Nat.lt_of_le_of_lt h1 (of_decide_eq_true rfl)
/-- both figures short, the bottom above 0 -/
def ShF (x : Int × Int) : Prop := Sh x.1 ∧ Sh x.2 ∧ 0 < x.2
theorem is_factor_ok (x : Int × Int) (h : Fr x) : CC (k + 5) g 4 [fV x] S = .ok (.bl (decide (x.2 ≤ x.1))) S := by
  rw [C_at (k := k + 2) (np := 1) (nn := 1) (body := b_is_factor) rfl rfl]
  have hc := is_fraction_ok (k := k) (g := g) (S := S) x h
  simp only [b_cons, b_nil, s_asg, s_par, s_sub, s_ret, s_expr, s_ife, s_whl, s_for, s_raise, s_pass, e_cst, e_glb0, e_glb1, e_glb2, e_glb3, e_var, e_tup, e_lst, e_dnew, e_bin, e_neg, e_not, e_and, e_or, e_cmp, e_chn, e_ife, e_idx, e_slc, e_rev, e_call, e_bi, e_isi, e_app, e_get2, e_lam, e_lc, l_nil, l_cons, o_none, o_some, i_seq, i_range, i_zip, bind_ok, bind_err, toF_ok, toF_err, fbind_next, fbind_ret, fbind_err, asB_ok, asI_ok, asB_err, truth_ok, truth_err, set_name, set_tup, set_nil, set_cons, fend_next, fend_ret, fend_err, List.length_cons, List.length_nil, List.length_set, List.map_cons, List.map_nil, List.cons_append, List.nil_append, List.getElem?_cons_zero, List.getElem?_cons_succ, List.set_cons_zero, List.set_cons_succ, if_true, if_false, Bool.false_eq_true, Bool.not_true, Bool.not_false, reduceIte, and_self, Nat.reduceAdd, Nat.reduceLT, Nat.reduceLeDiff, Nat.reduceSub, Nat.reduceEqDiff, List.replicate_succ, List.replicate_zero, b_is_factor, hc]
  simp only [b_cons, b_nil, s_asg, s_par, s_sub, s_ret, s_expr, s_ife, s_whl, s_for, s_raise, s_pass, e_cst, e_glb0, e_glb1, e_glb2, e_glb3, e_var, e_tup, e_lst, e_dnew, e_bin, e_neg, e_not, e_and, e_or, e_cmp, e_chn, e_ife, e_idx, e_slc, e_rev, e_call, e_bi, e_isi, e_app, e_get2, e_lam, e_lc, l_nil, l_cons, o_none, o_some, i_seq, i_range, i_zip, bind_ok, bind_err, toF_ok, toF_err, fbind_next, fbind_ret, fbind_err, asB_ok, asI_ok, asB_err, truth_ok, truth_err, set_name, set_tup, set_nil, set_cons, fend_next, fend_ret, fend_err, List.length_cons, List.length_nil, List.length_set, List.map_cons, List.map_nil, List.cons_append, List.nil_append, List.getElem?_cons_zero, List.getElem?_cons_succ, List.set_cons_zero, List.set_cons_succ, if_true, if_false, Bool.false_eq_true, Bool.not_true, Bool.not_false, reduceIte, and_self, Nat.reduceAdd, Nat.reduceLT, Nat.reduceLeDiff, Nat.reduceSub, Nat.reduceEqDiff, List.replicate_succ, List.replicate_zero, fV, ge_ii, ix0, ix1]
theorem raw_plus_ok (x y : Int × Int) (hx : ShF x) (hy : ShF y) : CC (k + 7) g 6 [fV x, fV y] S = .ok (fV (rd (x.1 * y.2 + y.1 * x.2) (x.2 * y.2))) S := by
  obtain ⟨a1, a2, a3⟩ := hx
  obtain ⟨b1, b2, b3⟩ := hy
  rw [C_at (k := k + 4) (np := 2) (nn := 2) (body := b_raw_plus) rfl rfl]
  have hm := made_rd (k := k + 2) (g := g) (S := S) (x.1 * y.2 + y.1 * x.2) (x.2 * y.2) (Int.mul_pos a3 b3) (sh_mul_W a2 b2)
  rw [show fV x = .tup [.int x.1, .int x.2] from rfl, show fV y = .tup [.int y.1, .int y.2] from rfl]
  simp only [b_cons, b_nil, s_asg, s_par, s_sub, s_ret, s_expr, s_ife, s_whl, s_for, s_raise, s_pass, e_cst, e_glb0, e_glb1, e_glb2, e_glb3, e_var, e_tup, e_lst, e_dnew, e_bin, e_neg, e_not, e_and, e_or, e_cmp, e_chn, e_ife, e_idx, e_slc, e_rev, e_call, e_bi, e_isi, e_app, e_get2, e_lam, e_lc, l_nil, l_cons, o_none, o_some, i_seq, i_range, i_zip, bind_ok, bind_err, toF_ok, toF_err, fbind_next, fbind_ret, fbind_err, asB_ok, asI_ok, asB_err, truth_ok, truth_err, set_name, set_tup, set_nil, set_cons, fend_next, fend_ret, fend_err, List.length_cons, List.length_nil, List.length_set, List.map_cons, List.map_nil, List.cons_append, List.nil_append, List.getElem?_cons_zero, List.getElem?_cons_succ, List.set_cons_zero, List.set_cons_succ, if_true, if_false, Bool.false_eq_true, Bool.not_true, Bool.not_false, reduceIte, and_self, Nat.reduceAdd, Nat.reduceLT, Nat.reduceLeDiff, Nat.reduceSub, Nat.reduceEqDiff, List.replicate_succ, List.replicate_zero, b_raw_plus, ix0, ix1, mul_sh a1 b2, mul_sh b1 a2, mul_sh a2 b2, add_ii, hm]
theorem raw_by_ok (x y : Int × Int) (hx : ShF x) (hy : ShF y) (h1 : 0 < y.1) : CC (k + 7) g 7 [fV x, fV y] S = .ok (fV (rd (x.1 * y.2) (x.2 * y.1))) S := by
  obtain ⟨a1, a2, a3⟩ := hx
  obtain ⟨b1, b2, b3⟩ := hy
  rw [C_at (k := k + 4) (np := 2) (nn := 2) (body := b_raw_by) rfl rfl]
  have hm := made_rd (k := k + 2) (g := g) (S := S) (x.1 * y.2) (x.2 * y.1) (Int.mul_pos a3 h1) (sh_mul_W a2 b1)
  rw [show fV x = .tup [.int x.1, .int x.2] from rfl, show fV y = .tup [.int y.1, .int y.2] from rfl]
  simp only [b_cons, b_nil, s_asg, s_par, s_sub, s_ret, s_expr, s_ife, s_whl, s_for, s_raise, s_pass, e_cst, e_glb0, e_glb1, e_glb2, e_glb3, e_var, e_tup, e_lst, e_dnew, e_bin, e_neg, e_not, e_and, e_or, e_cmp, e_chn, e_ife, e_idx, e_slc, e_rev, e_call, e_bi, e_isi, e_app, e_get2, e_lam, e_lc, l_nil, l_cons, o_none, o_some, i_seq, i_range, i_zip, bind_ok, bind_err, toF_ok, toF_err, fbind_next, fbind_ret, fbind_err, asB_ok, asI_ok, asB_err, truth_ok, truth_err, set_name, set_tup, set_nil, set_cons, fend_next, fend_ret, fend_err, List.length_cons, List.length_nil, List.length_set, List.map_cons, List.map_nil, List.cons_append, List.nil_append, List.getElem?_cons_zero, List.getElem?_cons_succ, List.set_cons_zero, List.set_cons_succ, if_true, if_false, Bool.false_eq_true, Bool.not_true, Bool.not_false, reduceIte, and_self, Nat.reduceAdd, Nat.reduceLT, Nat.reduceLeDiff, Nat.reduceSub, Nat.reduceEqDiff, List.replicate_succ, List.replicate_zero, b_raw_by, ix0, ix1, mul_sh a1 b2, mul_sh a2 b1, hm]
theorem raw_at_most_ok (x y : Int × Int) (hx : ShF x) (hy : ShF y) : CC (k + 3) g 8 [fV x, fV y] S = .ok (.bl (decide (x.1 * y.2 ≤ y.1 * x.2))) S := by
  obtain ⟨a1, a2, a3⟩ := hx
  obtain ⟨b1, b2, b3⟩ := hy
  rw [C_at (k := k) (np := 2) (nn := 2) (body := b_raw_at_most) rfl rfl]
  rw [show fV x = .tup [.int x.1, .int x.2] from rfl, show fV y = .tup [.int y.1, .int y.2] from rfl]
  simp only [b_cons, b_nil, s_asg, s_par, s_sub, s_ret, s_expr, s_ife, s_whl, s_for, s_raise, s_pass, e_cst, e_glb0, e_glb1, e_glb2, e_glb3, e_var, e_tup, e_lst, e_dnew, e_bin, e_neg, e_not, e_and, e_or, e_cmp, e_chn, e_ife, e_idx, e_slc, e_rev, e_call, e_bi, e_isi, e_app, e_get2, e_lam, e_lc, l_nil, l_cons, o_none, o_some, i_seq, i_range, i_zip, bind_ok, bind_err, toF_ok, toF_err, fbind_next, fbind_ret, fbind_err, asB_ok, asI_ok, asB_err, truth_ok, truth_err, set_name, set_tup, set_nil, set_cons, fend_next, fend_ret, fend_err, List.length_cons, List.length_nil, List.length_set, List.map_cons, List.map_nil, List.cons_append, List.nil_append, List.getElem?_cons_zero, List.getElem?_cons_succ, List.set_cons_zero, List.set_cons_succ, if_true, if_false, Bool.false_eq_true, Bool.not_true, Bool.not_false, reduceIte, and_self, Nat.reduceAdd, Nat.reduceLT, Nat.reduceLeDiff, Nat.reduceSub, Nat.reduceEqDiff, List.replicate_succ, List.replicate_zero, b_raw_at_most, ix0, ix1, mul_sh a1 b2, mul_sh b1 a2, le_ii]
theorem less_ok (x y : Int × Int) (hx : ShF x) (hy : ShF y) : CC (k + 3) g 26 [fV x, fV y] S = .ok (.bl (decide (x.1 * y.2 < y.1 * x.2))) S := by
  obtain ⟨a1, a2, a3⟩ := hx
  obtain ⟨b1, b2, b3⟩ := hy
  rw [C_at (k := k) (np := 2) (nn := 2) (body := b__law_less) rfl rfl]
  rw [show fV x = .tup [.int x.1, .int x.2] from rfl, show fV y = .tup [.int y.1, .int y.2] from rfl]
  simp only [b_cons, b_nil, s_asg, s_par, s_sub, s_ret, s_expr, s_ife, s_whl, s_for, s_raise, s_pass, e_cst, e_glb0, e_glb1, e_glb2, e_glb3, e_var, e_tup, e_lst, e_dnew, e_bin, e_neg, e_not, e_and, e_or, e_cmp, e_chn, e_ife, e_idx, e_slc, e_rev, e_call, e_bi, e_isi, e_app, e_get2, e_lam, e_lc, l_nil, l_cons, o_none, o_some, i_seq, i_range, i_zip, bind_ok, bind_err, toF_ok, toF_err, fbind_next, fbind_ret, fbind_err, asB_ok, asI_ok, asB_err, truth_ok, truth_err, set_name, set_tup, set_nil, set_cons, fend_next, fend_ret, fend_err, List.length_cons, List.length_nil, List.length_set, List.map_cons, List.map_nil, List.cons_append, List.nil_append, List.getElem?_cons_zero, List.getElem?_cons_succ, List.set_cons_zero, List.set_cons_succ, if_true, if_false, Bool.false_eq_true, Bool.not_true, Bool.not_false, reduceIte, and_self, Nat.reduceAdd, Nat.reduceLT, Nat.reduceLeDiff, Nat.reduceSub, Nat.reduceEqDiff, List.replicate_succ, List.replicate_zero, b__law_less, ix0, ix1, mul_sh a1 b2, mul_sh b1 a2, lt_ii]
theorem gcd_loop3 (v0 v1 v2 : Option Val) : ∀ (f x y : Nat), y < f → WLp q (.cmp .gt (.var 4) (.cst (.int 0))) (.cons (.par 3 4 (.var 4) (.bin .mod (.bi .int (.var 3)) (.var 4))) .nil) f [v0, v1, v2, some (.int x), some (.int y)] S = .next [v0, v1, v2, some (.int (Nat.gcd x y)), some (.int 0)] S
  | 0, x, y, h => absurd h (Nat.not_lt_zero y)
  | f + 1, x, y, h => by
    rw [WLp_succ]
    by_cases hy : y = 0
    · subst hy
      rw [Nat.gcd_zero_right]
      rfl
    · have e1 : decide ((0 : Int) < (y : Int)) = true := by simpa using Nat.pos_of_ne_zero hy
      have ih := gcd_loop3 v0 v1 v2 f y (x % y) (by have := Nat.mod_lt x (Nat.pos_of_ne_zero hy); omega)
      have eg : Nat.gcd x y = Nat.gcd y (x % y) := by rw [Nat.gcd_comm x y, Nat.gcd_rec y x, Nat.gcd_comm]
      rw [eg, ← ih]
      simp only [b_cons, b_nil, s_asg, s_par, s_sub, s_ret, s_expr, s_ife, s_whl, s_for, s_raise, s_pass, e_cst, e_glb0, e_glb1, e_glb2, e_glb3, e_var, e_tup, e_lst, e_dnew, e_bin, e_neg, e_not, e_and, e_or, e_cmp, e_chn, e_ife, e_idx, e_slc, e_rev, e_call, e_bi, e_isi, e_app, e_get2, e_lam, e_lc, l_nil, l_cons, o_none, o_some, i_seq, i_range, i_zip, bind_ok, bind_err, toF_ok, toF_err, fbind_next, fbind_ret, fbind_err, asB_ok, asI_ok, asB_err, truth_ok, truth_err, set_name, set_tup, set_nil, set_cons, fend_next, fend_ret, fend_err, List.length_cons, List.length_nil, List.length_set, List.map_cons, List.map_nil, List.cons_append, List.nil_append, List.getElem?_cons_zero, List.getElem?_cons_succ, List.set_cons_zero, List.set_cons_succ, if_true, if_false, Bool.false_eq_true, Bool.not_true, Bool.not_false, reduceIte, and_self, Nat.reduceAdd, Nat.reduceLT, Nat.reduceLeDiff, Nat.reduceSub, Nat.reduceEqDiff, List.replicate_succ, List.replicate_zero, wEnd_next, gt_ii, e1, int_i, mod_ii (show (0 : Int) < (y : Int) by omega)]
      rfl
theorem fr_ok (a b : Int) (hb : 0 < b) (h : b.natAbs < WW) (ha : a.natAbs.log2 < 500000) : CC (k + 3) g 23 [.int a, .int b] S = .ok (fV (rd a b)) S := by
  rw [C_at (k := k) (np := 2) (nn := 5) (body := b__law_fr) rfl rfl]
  have e2 : decide (b < 0) = false := by simpa using Int.le_of_lt hb
  have hg := gcd_pos (a := a.natAbs) (b := b.natAbs) (by omega)
  have hg2 : Nat.gcd a.natAbs b.natAbs < WW := Nat.lt_of_le_of_lt (Nat.gcd_le_right a.natAbs (by omega)) h
  have m1 : binop .mul (.int 1) (.int a) S = .ok (.int (1 * a)) S := mul_ii (by have : (1 : Int).natAbs.log2 = 0 := rfl; omega)
  have m2 : binop .mul (.int 1) (.int b) S = .ok (.int (1 * b)) S := mul_ii (by
    have : (1 : Int).natAbs.log2 = 0 := rfl
    have h2 := log_W h
    rw [Int.natAbs_natCast] at h2
    omega)
  simp only [b_cons, b_nil, s_asg, s_par, s_sub, s_ret, s_expr, s_ife, s_whl, s_for, s_raise, s_pass, e_cst, e_glb0, e_glb1, e_glb2, e_glb3, e_var, e_tup, e_lst, e_dnew, e_bin, e_neg, e_not, e_and, e_or, e_cmp, e_chn, e_ife, e_idx, e_slc, e_rev, e_call, e_bi, e_isi, e_app, e_get2, e_lam, e_lc, l_nil, l_cons, o_none, o_some, i_seq, i_range, i_zip, bind_ok, bind_err, toF_ok, toF_err, fbind_next, fbind_ret, fbind_err, asB_ok, asI_ok, asB_err, truth_ok, truth_err, set_name, set_tup, set_nil, set_cons, fend_next, fend_ret, fend_err, List.length_cons, List.length_nil, List.length_set, List.map_cons, List.map_nil, List.cons_append, List.nil_append, List.getElem?_cons_zero, List.getElem?_cons_succ, List.set_cons_zero, List.set_cons_succ, if_true, if_false, Bool.false_eq_true, Bool.not_true, Bool.not_false, reduceIte, and_self, Nat.reduceAdd, Nat.reduceLT, Nat.reduceLeDiff, Nat.reduceSub, Nat.reduceEqDiff, List.replicate_succ, List.replicate_zero, b__law_fr, abs_i, gcd_loop3 _ _ _ WW a.natAbs b.natAbs h, lt_ii, e2, m1, m2, Int.one_mul, fdiv_ii (show (0 : Int) < ((Nat.gcd a.natAbs b.natAbs : Nat) : Int) by omega) (log_W hg2)]
  have eb : ((b.natAbs : Nat) : Int) = b := by omega
  unfold rd red fV
  rw [eb]
  rfl
end
end Law
end

section
set_option Elab.async false
set_option linter.all false
set_option autoImplicit false
set_option maxRecDepth 100000
namespace Law
open PySem Ev
section
variable {k : Nat} {g : Bool} {S : Store} {q : Ev.Ctx} {e : Ev.Env}
theorem sh_mul_log {a b : Int} (ha : Sh a) (hb : Sh b) : (a * b).natAbs.log2 < 500000 := Nat.lt_trans (log_lt (n := 700) (Nat.lt_trans (sh_mul_W ha hb) WW_lt) (by decide)) (by decide)
theorem times_ok (x y : Int × Int) (hx : ShF x) (hy : ShF y) : CC (k + 6) g 24 [fV x, fV y] S = .ok (fV (rd (x.1 * y.1) (x.2 * y.2))) S := by
  obtain ⟨a1, a2, a3⟩ := hx
  obtain ⟨b1, b2, b3⟩ := hy
  rw [C_at (k := k + 3) (np := 2) (nn := 2) (body := b__law_times) rfl rfl]
  have hm := fr_ok (k := k + 2) (g := g) (S := S) (x.1 * y.1) (x.2 * y.2) (Int.mul_pos a3 b3) (sh_mul_W a2 b2) (sh_mul_log a1 b1)
  rw [show fV x = .tup [.int x.1, .int x.2] from rfl, show fV y = .tup [.int y.1, .int y.2] from rfl]
  simp only [b_cons, b_nil, s_asg, s_par, s_sub, s_ret, s_expr, s_ife, s_whl, s_for, s_raise, s_pass, e_cst, e_glb0, e_glb1, e_glb2, e_glb3, e_var, e_tup, e_lst, e_dnew, e_bin, e_neg, e_not, e_and, e_or, e_cmp, e_chn, e_ife, e_idx, e_slc, e_rev, e_call, e_bi, e_isi, e_app, e_get2, e_lam, e_lc, l_nil, l_cons, o_none, o_some, i_seq, i_range, i_zip, bind_ok, bind_err, toF_ok, toF_err, fbind_next, fbind_ret, fbind_err, asB_ok, asI_ok, asB_err, truth_ok, truth_err, set_name, set_tup, set_nil, set_cons, fend_next, fend_ret, fend_err, List.length_cons, List.length_nil, List.length_set, List.map_cons, List.map_nil, List.cons_append, List.nil_append, List.getElem?_cons_zero, List.getElem?_cons_succ, List.set_cons_zero, List.set_cons_succ, if_true, if_false, Bool.false_eq_true, Bool.not_true, Bool.not_false, reduceIte, and_self, Nat.reduceAdd, Nat.reduceLT, Nat.reduceLeDiff, Nat.reduceSub, Nat.reduceEqDiff, List.replicate_succ, List.replicate_zero, b__law_times, ix0, ix1, mul_sh a1 b1, mul_sh a2 b2, hm]
theorem over_ok (x y : Int × Int) (hx : ShF x) (hy : ShF y) (h1 : 0 < y.1) : CC (k + 6) g 25 [fV x, fV y] S = .ok (fV (rd (x.1 * y.2) (x.2 * y.1))) S := by
  obtain ⟨a1, a2, a3⟩ := hx
  obtain ⟨b1, b2, b3⟩ := hy
  rw [C_at (k := k + 3) (np := 2) (nn := 2) (body := b__law_over) rfl rfl]
  have hm := fr_ok (k := k + 2) (g := g) (S := S) (x.1 * y.2) (x.2 * y.1) (Int.mul_pos a3 h1) (sh_mul_W a2 b1) (sh_mul_log a1 b2)
  rw [show fV x = .tup [.int x.1, .int x.2] from rfl, show fV y = .tup [.int y.1, .int y.2] from rfl]
  simp only [b_cons, b_nil, s_asg, s_par, s_sub, s_ret, s_expr, s_ife, s_whl, s_for, s_raise, s_pass, e_cst, e_glb0, e_glb1, e_glb2, e_glb3, e_var, e_tup, e_lst, e_dnew, e_bin, e_neg, e_not, e_and, e_or, e_cmp, e_chn, e_ife, e_idx, e_slc, e_rev, e_call, e_bi, e_isi, e_app, e_get2, e_lam, e_lc, l_nil, l_cons, o_none, o_some, i_seq, i_range, i_zip, bind_ok, bind_err, toF_ok, toF_err, fbind_next, fbind_ret, fbind_err, asB_ok, asI_ok, asB_err, truth_ok, truth_err, set_name, set_tup, set_nil, set_cons, fend_next, fend_ret, fend_err, List.length_cons, List.length_nil, List.length_set, List.map_cons, List.map_nil, List.cons_append, List.nil_append, List.getElem?_cons_zero, List.getElem?_cons_succ, List.set_cons_zero, List.set_cons_succ, if_true, if_false, Bool.false_eq_true, Bool.not_true, Bool.not_false, reduceIte, and_self, Nat.reduceAdd, Nat.reduceLT, Nat.reduceLeDiff, Nat.reduceSub, Nat.reduceEqDiff, List.replicate_succ, List.replicate_zero, b__law_over, ix0, ix1, mul_sh a1 b2, mul_sh a2 b1, hm]
end
end Law
end

section
set_option Elab.async false
set_option linter.all false
set_option autoImplicit false
set_option maxRecDepth 100000
namespace Law
open PySem Ev
section
variable {k : Nat} {g : Bool} {S : Store} {q : Ev.Ctx} {e : Ev.Env}
theorem atI_int {vs : List Val} {i : Int} {v : Val} (h0 : 0 ≤ i) (h : vs[i.toNat]? = some v) : L2.atI vs i = some v := by
  have hj := L2.atI_nat (xs := vs) (j := i.toNat) h
  rwa [show ((i.toNat : Nat) : Int) = i by omega] at hj
theorem ix_t {vs : List Val} {i : Int} {v : Val} (h0 : 0 ≤ i) (h : vs[i.toNat]? = some v) : idxop (.tup vs) (.int i) S = .ok v S := by
  show (match L2.atI vs i with | some v => R.ok v S | none => .stuck) = _
  rw [atI_int h0 h]
theorem ix_o {n : Nat} {vs : List Val} {i : Int} {v : Val} (hs : S[n]? = some (.lst vs)) (h0 : 0 ≤ i) (h : vs[i.toNat]? = some v) : idxop (.obj n) (.int i) S = .ok v S := by
  have e : seqOf S (.obj n) = some vs := by
    show (match S[n]? with | some (.lst vs) => some vs | _ => none) = _
    rw [hs]
  show (match seqOf S (.obj n) with | some vs => (match L2.atI vs i with | some v => R.ok v S | none => .stuck) | none => .stuck) = _
  rw [e]
  show (match L2.atI vs i with | some v => R.ok v S | none => .stuck) = _
  rw [atI_int h0 h]
theorem len_o {n : Nat} {vs : List Val} (b : Bool) (hs : S[n]? = some (.lst vs)) : biop b .len (.obj n) S = .ok (.int vs.length) S := by
  show (match S[n]? with | some (.dic kvs) => R.ok (Val.int kvs.length) S | some (.lst vs) => .ok (Val.int vs.length) S | none => .stuck) = _
  rw [hs]
/-- the store with that hand -/
def TT (S : Store) (p w s t : Int) : Store := S.set 2 (.lst [.obj 1, .int p, .int w, .int s, .int t])
section
variable {p w s t v : Int} {cs : List Int}
theorem TT_2 (h : 2 < S.length) : (TT S p w s t)[2]? = some (.lst [.obj 1, .int p, .int w, .int s, .int t]) := List.getElem?_set_self h
theorem TT_1 (h : S[1]? = some (.lst (cs.map Val.int))) : (TT S p w s t)[1]? = some (.lst (cs.map Val.int)) := by
  unfold TT
  rw [List.getElem?_set_ne (by decide)]
  exact h
theorem T0 (h : 2 < S.length) : idxop (.obj 2) (.int 0) (TT S p w s t) = .ok (.obj 1) (TT S p w s t) := ix_o (TT_2 h) (by decide) rfl
theorem T1 (h : 2 < S.length) : idxop (.obj 2) (.int 1) (TT S p w s t) = .ok (.int p) (TT S p w s t) := ix_o (TT_2 h) (by decide) rfl
theorem T2 (h : 2 < S.length) : idxop (.obj 2) (.int 2) (TT S p w s t) = .ok (.int w) (TT S p w s t) := ix_o (TT_2 h) (by decide) rfl
theorem T3 (h : 2 < S.length) : idxop (.obj 2) (.int 3) (TT S p w s t) = .ok (.int s) (TT S p w s t) := ix_o (TT_2 h) (by decide) rfl
theorem T4 (h : 2 < S.length) : idxop (.obj 2) (.int 4) (TT S p w s t) = .ok (.int t) (TT S p w s t) := ix_o (TT_2 h) (by decide) rfl
theorem setT_any {i : Int} {j : Nat} (h : 2 < S.length) (hi : L2.ixN 5 i = some j) : setop (.obj 2) (.int i) (.int v) (TT S p w s t) = some ((TT S p w s t).set 2 (.lst ([.obj 1, .int p, .int w, .int s, .int t].set j (.int v)))) := by
  unfold setop
  simp only [TT_2 h]
  rw [show L2.ixN [Val.obj 1, Val.int p, Val.int w, Val.int s, Val.int t].length i = some j from hi]
theorem U1 (h : 2 < S.length) : setop (.obj 2) (.int 1) (.int v) (TT S p w s t) = some (TT S v w s t) := (setT_any (j := 1) h rfl).trans (by unfold TT; rw [List.set_set]; rfl)
theorem U2 (h : 2 < S.length) : setop (.obj 2) (.int 2) (.int v) (TT S p w s t) = some (TT S p v s t) := (setT_any (j := 2) h rfl).trans (by unfold TT; rw [List.set_set]; rfl)
theorem U3 (h : 2 < S.length) : setop (.obj 2) (.int 3) (.int v) (TT S p w s t) = some (TT S p w v t) := (setT_any (j := 3) h rfl).trans (by unfold TT; rw [List.set_set]; rfl)
theorem U4 (h : 2 < S.length) : setop (.obj 2) (.int 4) (.int v) (TT S p w s t) = some (TT S p w s v) := (setT_any (j := 4) h rfl).trans (by unfold TT; rw [List.set_set]; rfl)
theorem TL (h : S[1]? = some (.lst (cs.map Val.int))) (b : Bool) : biop b .len (.obj 1) (TT S p w s t) = .ok (.int cs.length) (TT S p w s t) := by
  rw [len_o b (TT_1 h), List.length_map]
theorem TC (h : S[1]? = some (.lst (cs.map Val.int))) {i c : Int} (h0 : 0 ≤ i) (hc : cs[i.toNat]? = some c) : idxop (.obj 1) (.int i) (TT S p w s t) = .ok (.int c) (TT S p w s t) := ix_o (TT_1 h) h0 (by rw [List.getElem?_map, hc]; rfl)
end
theorem mul_lt40 {a b : Int} (ha : a.natAbs < 2 ^ 70) (hb : b.natAbs < 2 ^ 70) : binop .mul (.int a) (.int b) S = .ok (.int (a * b)) S := mul_ii (by
  have := log_lt ha (by decide)
  have := log_lt hb (by decide)
  omega)
theorem pow18 : binop .pow (.int 10) (.int 18) S = .ok (.int (10 ^ 18)) S := rfl
/-- the hand at 2, its cells at 1, drawn so often at most -/
def Hd (m : Nat) (S : Store) : Prop := ∃ (cs : List Int) (p w s t : Int), S[1]? = some (.lst (cs.map Val.int)) ∧ S[2]? = some (.lst [.obj 1, .int p, .int w, .int s, .int t]) ∧
  (∀ c ∈ cs, 0 ≤ c) ∧ 0 ≤ p ∧ 0 ≤ w ∧ 0 ≤ s ∧ s < 2 ^ 40 ∧ 0 ≤ t ∧ t ≤ m
theorem Hd_TT {m : Nat} {cs : List Int} {p w s t : Int} (hl : 2 < S.length) (h1 : S[1]? = some (.lst (cs.map Val.int))) (hc : ∀ c ∈ cs, 0 ≤ c) (hp : 0 ≤ p) (hw : 0 ≤ w) (hs : 0 ≤ s) (hs2 : s < 2 ^ 40) (ht : 0 ≤ t) (hm : t ≤ m) : Hd m (TT S p w s t) :=
  ⟨cs, p, w, s, t, TT_1 h1, TT_2 hl, hc, hp, hw, hs, hs2, ht, hm⟩
theorem TT_self {p w s t : Int} (h : S[2]? = some (.lst [.obj 1, .int p, .int w, .int s, .int t])) : TT S p w s t = S := by
  unfold TT
  apply List.ext_getElem?
  intro i
  by_cases hi : i = 2
  · subst hi
    have hl : 2 < S.length := (List.getElem?_eq_some_iff.mp h).1
    rw [List.getElem?_set_self hl, h]
  · rw [List.getElem?_set_ne (Ne.symm hi)]
theorem md {a b : Int} (h : 0 < b) : 0 ≤ a % b ∧ a % b < b := ⟨Int.emod_nonneg a (by omega), Int.emod_lt_of_pos a h⟩
def drawHead : IS := match b__law_draw with | .cons a _ => a | _ => .pass
def drawTail : IB := match b__law_draw with | .cons _ r => r | _ => .nil
theorem b_draw : b__law_draw = .cons drawHead drawTail := rfl
/-- how a draw ends -/
def Drawn (g : Bool) (S : Store) (m mm : Nat) (r : R Val) : Prop := ∃ (d : Nat) (p w s t : Int), d < mm ∧ r = .ok (.int d) (TT S p w s t) ∧ Hd (m + 1) (TT S p w s t)
theorem drawTail_ok {m mm : Nat} {cs : List Int} {p w s t : Int} {x2 x3 x4 : Option Val} (hl : 2 < S.length) (e1 : S[1]? = some (.lst (cs.map Val.int))) (hc : ∀ c ∈ cs, 0 ≤ c) (hp : 0 ≤ p) (hw : 0 ≤ w) (hs : 0 ≤ s) (hs2 : s < 2 ^ 40) (ht : 0 ≤ t) (htm : t ≤ m) (hm : m < 10 ^ 9) (h0 : 0 < mm) (h1 : mm ≤ 1000) :
    Drawn g S m mm (fend (evB G LT WW ⟨CC (k + 2) g, CC k false, g⟩ drawTail [some (.obj 2), some (.int mm), x2, x3, x4] (TT S p w s t))) := by
  have hmm : (0 : Int) < (mm : Int) := by omega
  have hmm2 : ((mm : Nat) : Int).natAbs.log2 < 9000 := Nat.lt_trans (log_lt (n := 20) (by omega) (by decide)) (by decide)
  by_cases h : w = 0
  · have g0 : decide ((0 : Int) < w) = false := by rw [h]; rfl
    have m1 : ∀ {S : Store}, binop .mul (.int 7919) (.int (t + 1)) S = .ok (.int (7919 * (t + 1))) S := mul_lt40 (by decide) (by omega)
    have m2 : ∀ {S : Store}, binop .mul (.int (s + 7919 * (t + 1))) (.int 48271) S = .ok (.int ((s + 7919 * (t + 1)) * 48271)) S := mul_lt40 (by omega) (by decide)
    obtain ⟨b1, b2⟩ := md (a := (s + 7919 * (t + 1)) * 48271) (b := 2147483647) (by decide)
    generalize hn1 : (s + 7919 * (t + 1)) * 48271 % 2147483647 = n1 at b1 b2
    have m3 : ∀ {S : Store}, binop .mul (.int n1) (.int (n1 / 1009 + 69621)) S = .ok (.int (n1 * (n1 / 1009 + 69621))) S := mul_lt40 (by omega) (by omega)
    obtain ⟨b3, b4⟩ := md (a := n1 * (n1 / 1009 + 69621)) (b := 2147483647) (by decide)
    generalize hn2 : n1 * (n1 / 1009 + 69621) % 2147483647 = n2 at b3 b4
    have m4 : ∀ {S : Store}, binop .mul (.int n2) (.int (n2 / 2003 + 40692)) S = .ok (.int (n2 * (n2 / 2003 + 40692))) S := mul_lt40 (by omega) (by omega)
    generalize hn3 : n2 * (n2 / 2003 + 40692) % 2147483399 = n3
    obtain ⟨d1, d2⟩ := md (a := n3 / 16) hmm
    generalize hn4 : n3 / 16 % (mm : Int) = n4 at d1 d2
    have er : n4 = ((n4.toNat : Nat) : Int) := by omega
    refine ⟨n4.toNat, p, w, s, t + 1, by omega, ?_, Hd_TT hl e1 hc hp (by omega) hs hs2 (by omega) (by omega)⟩
    have l1 : (1009 : Int).natAbs.log2 < 9000 := by decide
    have l2 : (2003 : Int).natAbs.log2 < 9000 := by decide
    have l3 : (16 : Int).natAbs.log2 < 9000 := by decide
    simp only [b_cons, b_nil, s_asg, s_par, s_sub, s_ret, s_expr, s_ife, s_whl, s_for, s_raise, s_pass, e_cst, e_glb0, e_glb1, e_glb2, e_glb3, e_var, e_tup, e_lst, e_dnew, e_bin, e_neg, e_not, e_and, e_or, e_cmp, e_chn, e_ife, e_idx, e_slc, e_rev, e_call, e_bi, e_isi, e_app, e_get2, e_lam, e_lc, l_nil, l_cons, o_none, o_some, i_seq, i_range, i_zip, bind_ok, bind_err, toF_ok, toF_err, fbind_next, fbind_ret, fbind_err, asB_ok, asI_ok, asB_err, truth_ok, truth_err, set_name, set_tup, set_nil, set_cons, fend_next, fend_ret, fend_err, List.length_cons, List.length_nil, List.length_set, List.map_cons, List.map_nil, List.cons_append, List.nil_append, List.getElem?_cons_zero, List.getElem?_cons_succ, List.set_cons_zero, List.set_cons_succ, if_true, if_false, Bool.false_eq_true, Bool.not_true, Bool.not_false, reduceIte, and_self, Nat.reduceAdd, Nat.reduceLT, Nat.reduceLeDiff, Nat.reduceSub, Nat.reduceEqDiff, List.replicate_succ, List.replicate_zero, drawTail, b__law_draw, T2 hl, T4 hl, T3 hl, gt_ii, g0, int_i, add_ii, U4 hl, m1, m2, mod_ii (show (0 : Int) < 2147483647 by decide), mod_ii (show (0 : Int) < 2147483399 by decide), hn1, fdiv_ii (show (0 : Int) < 1009 by decide) l1, m3, hn2, fdiv_ii (show (0 : Int) < 2003 by decide) l2, m4, hn3, fdiv_ii (show (0 : Int) < 16 by decide) l3, mod_ii hmm, hn4, ← er]
  · obtain ⟨d1, d2⟩ := md (a := w) hmm
    generalize hn4 : w % (mm : Int) = n4 at d1 d2
    have er : n4 = ((n4.toNat : Nat) : Int) := by omega
    refine ⟨n4.toNat, p, w / (mm : Int), s, t, by omega, ?_, Hd_TT hl e1 hc hp (Int.ediv_nonneg (by omega) (by omega)) hs hs2 ht (by omega)⟩
    have g0 : decide ((0 : Int) < w) = true := by simpa using (by omega : 0 < w)
    simp only [b_cons, b_nil, s_asg, s_par, s_sub, s_ret, s_expr, s_ife, s_whl, s_for, s_raise, s_pass, e_cst, e_glb0, e_glb1, e_glb2, e_glb3, e_var, e_tup, e_lst, e_dnew, e_bin, e_neg, e_not, e_and, e_or, e_cmp, e_chn, e_ife, e_idx, e_slc, e_rev, e_call, e_bi, e_isi, e_app, e_get2, e_lam, e_lc, l_nil, l_cons, o_none, o_some, i_seq, i_range, i_zip, bind_ok, bind_err, toF_ok, toF_err, fbind_next, fbind_ret, fbind_err, asB_ok, asI_ok, asB_err, truth_ok, truth_err, set_name, set_tup, set_nil, set_cons, fend_next, fend_ret, fend_err, List.length_cons, List.length_nil, List.length_set, List.map_cons, List.map_nil, List.cons_append, List.nil_append, List.getElem?_cons_zero, List.getElem?_cons_succ, List.set_cons_zero, List.set_cons_succ, if_true, if_false, Bool.false_eq_true, Bool.not_true, Bool.not_false, reduceIte, and_self, Nat.reduceAdd, Nat.reduceLT, Nat.reduceLeDiff, Nat.reduceSub, Nat.reduceEqDiff, List.replicate_succ, List.replicate_zero, drawTail, b__law_draw, T2 hl, gt_ii, g0, int_i, mod_ii hmm, fdiv_ii hmm hmm2, U2 hl, hn4, ← er]
theorem draw_ok {m mm : Nat} (hS : Hd m S) (hm : m < 10 ^ 9) (h0 : 0 < mm) (h1 : mm ≤ 1000) : Drawn g S m mm (CC (k + 3) g 20 [.obj 2, .int mm] S) := by
  obtain ⟨cs, p, w, s, t, e1, e2, hc, hp, hw, hs, hs2, ht, htm⟩ := hS
  have hl : 2 < S.length := (List.getElem?_eq_some_iff.mp e2).1
  have es := TT_self e2
  have tail : ∀ {p w s t : Int} {x2 x3 x4 : Option Val}, 0 ≤ p → 0 ≤ w → 0 ≤ s → s < 2 ^ 40 → 0 ≤ t → t ≤ m → Drawn g S m mm (fend (evB G LT WW ⟨CC (k + 2) g, CC k false, g⟩ drawTail [some (.obj 2), some (.int mm), x2, x3, x4] (TT S p w s t))) := fun hp hw hs hs2 ht htm => drawTail_ok hl e1 hc hp hw hs hs2 ht htm hm h0 h1
  have go : ∀ {p' w' s' : Int} {x3 : Option Val}, evS G LT WW ⟨CC (k + 2) g, CC k false, g⟩ drawHead [some (.obj 2), some (.int mm), none, none, none] (TT S p w s t) = .next [some (.obj 2), some (.int mm), none, x3, none] (TT S p' w' s' t) → 0 ≤ p' → 0 ≤ w' → 0 ≤ s' → s' < 2 ^ 40 → Drawn g S m mm (CC (k + 3) g 20 [.obj 2, .int mm] S) := by
    intro p' w' s' x3 h hp hw hs hs2
    rw [C_at (k := k) (np := 2) (nn := 5) (body := b__law_draw) rfl rfl, b_draw, b_cons]
    have h' : evS G LT WW ⟨CC (k + 2) g, CC k false, g⟩ drawHead (List.map some [Val.obj 2, Val.int mm] ++ List.replicate (5 - [Val.obj 2, Val.int mm].length) none) S = .next [some (.obj 2), some (.int mm), none, x3, none] (TT S p' w' s' t) := by
      rw [es] at h
      exact h
    rw [h', fbind_next]
    exact tail hp hw hs hs2 ht htm
  by_cases hA : w = 0 ∧ p < cs.length
  · obtain ⟨hA1, hA2⟩ := hA
    obtain ⟨c, hcc⟩ : ∃ c, cs[p.toNat]? = some c := ⟨cs[p.toNat]'(by omega), List.getElem?_eq_getElem (by omega)⟩
    have hc0 : 0 ≤ c := hc c (List.mem_of_getElem? hcc)
    have a1 : (w == 0) = true := by simpa using hA1
    have a2 : decide (p < (cs.length : Int)) = true := by simpa using hA2
    have a3 : ∀ {S : Store}, binop .mul (.int s) (.int 69621) S = .ok (.int (s * 69621)) S := mul_lt40 (by omega) (by decide)
    obtain ⟨b1, b2⟩ := md (a := s * 69621 + c + 29) (b := 2147483629) (by decide)
    by_cases hbig : (10 : Int) ^ 18 ≤ c
    · have a4 : decide ((10 : Int) ^ 18 ≤ c) = true := by simpa using hbig
      refine go (p' := p + 1) (w' := c) (s' := (s * 69621 + c + 29) % 2147483629) (x3 := some (.int c)) ?_ (by omega) hc0 b1 (by omega)
      simp only [b_cons, b_nil, s_asg, s_par, s_sub, s_ret, s_expr, s_ife, s_whl, s_for, s_raise, s_pass, e_cst, e_glb0, e_glb1, e_glb2, e_glb3, e_var, e_tup, e_lst, e_dnew, e_bin, e_neg, e_not, e_and, e_or, e_cmp, e_chn, e_ife, e_idx, e_slc, e_rev, e_call, e_bi, e_isi, e_app, e_get2, e_lam, e_lc, l_nil, l_cons, o_none, o_some, i_seq, i_range, i_zip, bind_ok, bind_err, toF_ok, toF_err, fbind_next, fbind_ret, fbind_err, asB_ok, asI_ok, asB_err, truth_ok, truth_err, set_name, set_tup, set_nil, set_cons, fend_next, fend_ret, fend_err, List.length_cons, List.length_nil, List.length_set, List.map_cons, List.map_nil, List.cons_append, List.nil_append, List.getElem?_cons_zero, List.getElem?_cons_succ, List.set_cons_zero, List.set_cons_succ, if_true, if_false, Bool.false_eq_true, Bool.not_true, Bool.not_false, reduceIte, and_self, Nat.reduceAdd, Nat.reduceLT, Nat.reduceLeDiff, Nat.reduceSub, Nat.reduceEqDiff, List.replicate_succ, List.replicate_zero, drawHead, b__law_draw, T0 hl, T1 hl, T2 hl, T3 hl, eq_ii, lt_ii, ge_ii, a1, a2, a4, TL e1, TC e1 hp hcc, add_ii, U1 hl, U2 hl, U3 hl, a3, int_i, mod_ii (show (0 : Int) < 2147483629 by decide), pow18]
    · have a4 : decide ((10 : Int) ^ 18 ≤ c) = false := by simpa using hbig
      refine go (p' := p + 1) (w' := w) (s' := (s * 69621 + c + 29) % 2147483629) (x3 := some (.int c)) ?_ (by omega) hw b1 (by omega)
      simp only [b_cons, b_nil, s_asg, s_par, s_sub, s_ret, s_expr, s_ife, s_whl, s_for, s_raise, s_pass, e_cst, e_glb0, e_glb1, e_glb2, e_glb3, e_var, e_tup, e_lst, e_dnew, e_bin, e_neg, e_not, e_and, e_or, e_cmp, e_chn, e_ife, e_idx, e_slc, e_rev, e_call, e_bi, e_isi, e_app, e_get2, e_lam, e_lc, l_nil, l_cons, o_none, o_some, i_seq, i_range, i_zip, bind_ok, bind_err, toF_ok, toF_err, fbind_next, fbind_ret, fbind_err, asB_ok, asI_ok, asB_err, truth_ok, truth_err, set_name, set_tup, set_nil, set_cons, fend_next, fend_ret, fend_err, List.length_cons, List.length_nil, List.length_set, List.map_cons, List.map_nil, List.cons_append, List.nil_append, List.getElem?_cons_zero, List.getElem?_cons_succ, List.set_cons_zero, List.set_cons_succ, if_true, if_false, Bool.false_eq_true, Bool.not_true, Bool.not_false, reduceIte, and_self, Nat.reduceAdd, Nat.reduceLT, Nat.reduceLeDiff, Nat.reduceSub, Nat.reduceEqDiff, List.replicate_succ, List.replicate_zero, drawHead, b__law_draw, T0 hl, T1 hl, T2 hl, T3 hl, eq_ii, lt_ii, ge_ii, a1, a2, a4, TL e1, TC e1 hp hcc, add_ii, U1 hl, U2 hl, U3 hl, a3, int_i, mod_ii (show (0 : Int) < 2147483629 by decide), pow18]
  · refine go (p' := p) (w' := w) (s' := s) (x3 := none) ?_ hp hw hs hs2
    by_cases h0 : w = 0
    · have a1 : (w == 0) = true := by simpa using h0
      have a2 : decide (p < (cs.length : Int)) = false := by
        have : ¬ p < cs.length := fun h => hA ⟨h0, h⟩
        simpa using this
      simp only [b_cons, b_nil, s_asg, s_par, s_sub, s_ret, s_expr, s_ife, s_whl, s_for, s_raise, s_pass, e_cst, e_glb0, e_glb1, e_glb2, e_glb3, e_var, e_tup, e_lst, e_dnew, e_bin, e_neg, e_not, e_and, e_or, e_cmp, e_chn, e_ife, e_idx, e_slc, e_rev, e_call, e_bi, e_isi, e_app, e_get2, e_lam, e_lc, l_nil, l_cons, o_none, o_some, i_seq, i_range, i_zip, bind_ok, bind_err, toF_ok, toF_err, fbind_next, fbind_ret, fbind_err, asB_ok, asI_ok, asB_err, truth_ok, truth_err, set_name, set_tup, set_nil, set_cons, fend_next, fend_ret, fend_err, List.length_cons, List.length_nil, List.length_set, List.map_cons, List.map_nil, List.cons_append, List.nil_append, List.getElem?_cons_zero, List.getElem?_cons_succ, List.set_cons_zero, List.set_cons_succ, if_true, if_false, Bool.false_eq_true, Bool.not_true, Bool.not_false, reduceIte, and_self, Nat.reduceAdd, Nat.reduceLT, Nat.reduceLeDiff, Nat.reduceSub, Nat.reduceEqDiff, List.replicate_succ, List.replicate_zero, drawHead, b__law_draw, T0 hl, T1 hl, T2 hl, eq_ii, lt_ii, a1, a2, TL e1]
    · have a1 : (w == 0) = false := by simpa using h0
      simp only [b_cons, b_nil, s_asg, s_par, s_sub, s_ret, s_expr, s_ife, s_whl, s_for, s_raise, s_pass, e_cst, e_glb0, e_glb1, e_glb2, e_glb3, e_var, e_tup, e_lst, e_dnew, e_bin, e_neg, e_not, e_and, e_or, e_cmp, e_chn, e_ife, e_idx, e_slc, e_rev, e_call, e_bi, e_isi, e_app, e_get2, e_lam, e_lc, l_nil, l_cons, o_none, o_some, i_seq, i_range, i_zip, bind_ok, bind_err, toF_ok, toF_err, fbind_next, fbind_ret, fbind_err, asB_ok, asI_ok, asB_err, truth_ok, truth_err, set_name, set_tup, set_nil, set_cons, fend_next, fend_ret, fend_err, List.length_cons, List.length_nil, List.length_set, List.map_cons, List.map_nil, List.cons_append, List.nil_append, List.getElem?_cons_zero, List.getElem?_cons_succ, List.set_cons_zero, List.set_cons_succ, if_true, if_false, Bool.false_eq_true, Bool.not_true, Bool.not_false, reduceIte, and_self, Nat.reduceAdd, Nat.reduceLT, Nat.reduceLeDiff, Nat.reduceSub, Nat.reduceEqDiff, List.replicate_succ, List.replicate_zero, drawHead, b__law_draw, T2 hl, eq_ii, a1]
end
end Law
end

section
set_option Elab.async false
set_option linter.all false
set_option autoImplicit false
set_option maxRecDepth 100000
namespace Law
open PySem Ev
section
variable {k : Nat} {g : Bool} {S : Store} {q : Ev.Ctx} {e : Ev.Env}
/-! stores that keep all but the hand -/
def Keep (S S' : Store) : Prop := S.length ≤ S'.length ∧ ∀ n, n ≠ 2 → n < S.length → S'[n]? = S[n]?
theorem Keep.refl (S : Store) : Keep S S := ⟨Nat.le_refl _, fun _ _ _ => rfl⟩
theorem Keep.trans {S S' S'' : Store} (a : Keep S S') (b : Keep S' S'') : Keep S S'' := ⟨Nat.le_trans a.1 b.1, fun n h1 h2 => (b.2 n h1 (Nat.lt_of_lt_of_le h2 a.1)).trans (a.2 n h1 h2)⟩
theorem Keep.app (S J : Store) : Keep S (S ++ J) := ⟨by rw [List.length_append]; omega, fun n _ h => List.getElem?_append_left h⟩
theorem Keep.tt (S : Store) (p w s t : Int) : Keep S (TT S p w s t) := ⟨by unfold TT; rw [List.length_set]; omega, fun n h _ => by unfold TT; rw [List.getElem?_set_ne (Ne.symm h)]⟩
theorem Keep.get {S S' : Store} (a : Keep S S') {n : Nat} {c : Cell} (hn : n ≠ 2) (h : S[n]? = some c) : S'[n]? = some c := (a.2 n hn (List.getElem?_eq_some_iff.mp h).1).trans h
theorem Hd.app {m : Nat} (h : Hd m S) (J : Store) : Hd m (S ++ J) := by
  obtain ⟨cs, p, w, s, t, e1, e2, r⟩ := h
  exact ⟨cs, p, w, s, t, (List.getElem?_append_left (List.getElem?_eq_some_iff.mp e1).1).trans e1, (List.getElem?_append_left (List.getElem?_eq_some_iff.mp e2).1).trans e2, r⟩
theorem Hd.mono {m n : Nat} (h : Hd m S) (hn : m ≤ n) : Hd n S := by
  obtain ⟨cs, p, w, s, t, e1, e2, a, b, c, d, x, y, z⟩ := h
  exact ⟨cs, p, w, s, t, e1, e2, a, b, c, d, x, y, by omega⟩
theorem Hd.len {m : Nat} (h : Hd m S) : 2 < S.length := by
  obtain ⟨cs, p, w, s, t, e1, e2, r⟩ := h
  exact (List.getElem?_eq_some_iff.mp e2).1
theorem app_get {J : Store} {n : Nat} {c : Cell} (h : S[n]? = some c) : (S ++ J)[n]? = some c := (List.getElem?_append_left (List.getElem?_eq_some_iff.mp h).1).trans h
theorem app_last {c : Cell} : (S ++ [c])[S.length]? = some c := by simp
/-! comprehensions -/
def lcNext (q : Ev.Ctx) (own : List Nat) (elt : IE) (tg : Tg) (c : IO) (e : Ev.Env) (src : Src) (f i : Nat) (acc : List Val) (r : R (Option Val)) : R (List Val) := match r with
  | .ok (some y) S' => if acc.length < cap then LC q own elt tg c e src f (i + 1) (acc ++ [y]) S' else .stuck
  | .ok none S' => LC q own elt tg c e src f (i + 1) acc S'
  | .err _ _ => .stuck
  | .stuck => .stuck
def lcTurn (q : Ev.Ctx) (own : List Nat) (elt : IE) (tg : Tg) (c : IO) (e : Ev.Env) (v : Val) (S : Store) : R (Option Val) := match setT tg v (wipeE e own) with
  | none => .stuck
  | some e2 => match evC G LT c q e2 S with
    | .ok true S => toOpt (evE G LT elt q e2 S)
    | .ok false S => .ok none S
    | .err c S => .err c S
    | .stuck => .stuck
theorem LC_succ {own : List Nat} {elt : IE} {tg : Tg} {c : IO} {src : Src} {f i : Nat} {acc : List Val} : LC q own elt tg c e src (f + 1) i acc S = match src.at S i with
    | none => .stuck
    | some none => .ok acc S
    | some (some v) => lcNext q own elt tg c e src f i acc (lcTurn q own elt tg c e v S) := by
  show lcLoop _ _ _ _ _ _ = _
  rw [lcLoop]
  rfl
theorem lcTurn_yes {own : List Nat} {elt : IE} {tg : Tg} {e2 : Ev.Env} {v y : Val} {S' : Store} (h1 : setT tg v (wipeE e own) = some e2) (h2 : evE G LT elt q e2 S = .ok y S') : lcTurn q own elt tg .none e v S = .ok (some y) S' := by
  unfold lcTurn
  rw [h1]
  show toOpt (evE G LT elt q e2 S) = _
  rw [h2]
  rfl
theorem lcTurn_if {own : List Nat} {elt x : IE} {tg : Tg} {e2 : Ev.Env} {v y : Val} {S' S'' : Store} (h1 : setT tg v (wipeE e own) = some e2) (hc : asB (evE G LT x q e2 S) = .ok true S') (h2 : evE G LT elt q e2 S' = .ok y S'') : lcTurn q own elt tg (.some x) e v S = .ok (some y) S'' := by
  unfold lcTurn
  rw [h1]
  show (match asB (evE G LT x q e2 S) with | .ok true S => toOpt (evE G LT elt q e2 S) | .ok false S => .ok none S | .err c S => .err c S | .stuck => .stuck) = _
  rw [hc]
  show toOpt (evE G LT elt q e2 S') = _
  rw [h2]
  rfl
theorem lcTurn_no {own : List Nat} {elt x : IE} {tg : Tg} {e2 : Ev.Env} {v : Val} {S' : Store} (h1 : setT tg v (wipeE e own) = some e2) (hc : asB (evE G LT x q e2 S) = .ok false S') : lcTurn q own elt tg (.some x) e v S = .ok none S' := by
  unfold lcTurn
  rw [h1]
  show (match asB (evE G LT x q e2 S) with | .ok true S => toOpt (evE G LT elt q e2 S) | .ok false S => .ok none S | .err c S => .err c S | .stuck => .stuck) = _
  rw [hc]
theorem lc_rest {own : List Nat} {elt : IE} {tg : Tg} {c : IO} {src : Src} (vs : List Val) (P : List Val → List Val → Store → Prop) (hcap : vs.length ≤ cap)
    (hat : ∀ rest acc S, P rest acc S → ∀ i, src.at S i = some vs[i]?)
    (step : ∀ v rest acc S, P (v :: rest) acc S → ∃ o S', lcTurn q own elt tg c e v S = .ok o S' ∧ P rest (acc ++ o.toList) S') :
    ∀ (rest pre acc : List Val) (S : Store), vs = pre ++ rest → acc.length ≤ pre.length → P rest acc S →
      ∃ acc' S', LC q own elt tg c e src (rest.length + 1) pre.length acc S = .ok acc' S' ∧ P [] acc' S' ∧ acc'.length ≤ vs.length
  | [], pre, acc, S, hv, ha, hP => by
    refine ⟨acc, S, ?_, hP, by rw [hv, List.append_nil]; exact ha⟩
    rw [LC_succ, hat _ _ _ hP, hv]
    simp
  | v :: rest, pre, acc, S, hv, ha, hP => by
    obtain ⟨o, S', h1, h2⟩ := step v rest acc S hP
    have hv' : vs = (pre ++ [v]) ++ rest := by rw [hv]; simp
    have hl : acc.length < cap := by
      have : vs.length = pre.length + (rest.length + 1) := by rw [hv]; simp
      omega
    have ha' : (acc ++ o.toList).length ≤ (pre ++ [v]).length := by
      rw [List.length_append, List.length_append]
      have : o.toList.length ≤ 1 := by cases o <;> simp
      simp
      omega
    obtain ⟨acc', S'', h3, h4, h5⟩ := lc_rest vs P hcap hat step rest (pre ++ [v]) (acc ++ o.toList) S' hv' ha' h2
    refine ⟨acc', S'', ?_, h4, h5⟩
    have hi : vs[pre.length]? = some v := by rw [hv]; simp
    rw [LC_succ, hat _ _ _ hP, hi]
    show lcNext q own elt tg c e src (rest.length + 1) pre.length acc (lcTurn q own elt tg c e v S) = _
    rw [h1, ← h3]
    have hl2 : (pre ++ [v]).length = pre.length + 1 := by simp
    rw [hl2]
    cases o with
    | none =>
      show LC q own elt tg c e src (rest.length + 1) (pre.length + 1) acc S' = LC q own elt tg c e src (rest.length + 1) (pre.length + 1) (acc ++ []) S'
      rw [List.append_nil]
    | some y =>
      show (if acc.length < cap then LC q own elt tg c e src (rest.length + 1) (pre.length + 1) (acc ++ [y]) S' else .stuck) = _
      rw [if_pos hl]
      rfl
theorem lc_run {own : List Nat} {elt : IE} {tg : Tg} {c : IO} {src : Src} (vs : List Val) (P : List Val → List Val → Store → Prop) (hok : tgOk src tg = true) (hlen : src.len S = vs.length) (hcap : vs.length ≤ cap)
    (hat : ∀ rest acc S, P rest acc S → ∀ i, src.at S i = some vs[i]?)
    (step : ∀ v rest acc S, P (v :: rest) acc S → ∃ o S', lcTurn q own elt tg c e v S = .ok o S' ∧ P rest (acc ++ o.toList) S') (h0 : P vs [] S) :
    ∃ acc S', lcStart q own elt tg c e (.ok src S) = .ok (.obj S'.length) (S' ++ [.lst acc]) ∧ P [] acc S' ∧ acc.length ≤ vs.length := by
  obtain ⟨acc, S', h1, h2, h3⟩ := lc_rest vs P hcap hat step vs [] [] S rfl (Nat.le_refl _) h0
  refine ⟨acc, S', ?_, h2, h3⟩
  show (if tgOk src tg = false then R.stuck else lcEnd (LC q own elt tg c e src (src.len S + 1) 0 [] S)) = _
  rw [hok, hlen]
  have h1' : LC q own elt tg c e src (vs.length + 1) 0 [] S = .ok acc S' := h1
  rw [h1']
  rfl
/-- where each turn tells a value and the store only grows -/
theorem lc_map {own : List Nat} {elt : IE} {tg : Tg} {src : Src} {α : Type} (xs : List α) (i f : α → Val) (hok : tgOk src tg = true) (hlen : src.len S = xs.length) (hcap : xs.length ≤ cap)
    (hat : ∀ J n, src.at (S ++ J) n = some (xs.map i)[n]?)
    (step : ∀ x ∈ xs, ∀ J, ∃ e2 J', setT tg (i x) (wipeE e own) = some e2 ∧ evE G LT elt q e2 (S ++ J) = .ok (f x) (S ++ J')) :
    ∃ J, lcStart q own elt tg .none e (.ok src S) = .ok (.obj (S ++ J).length) (S ++ J ++ [.lst (xs.map f)]) := by
  obtain ⟨acc, S', h1, h2, _⟩ := lc_run (q := q) (e := e) (own := own) (elt := elt) (tg := tg) (c := .none) (src := src) (S := S) (xs.map i)
    (fun rest acc S' => ∃ J r, S' = S ++ J ∧ rest = r.map i ∧ (∀ x ∈ r, x ∈ xs) ∧ acc ++ r.map f = xs.map f) hok (by rw [hlen, List.length_map]) (by rw [List.length_map]; exact hcap)
    (fun rest acc S' ⟨J, r, a, b⟩ n => by rw [a]; exact hat J n)
    (fun v rest acc S' ⟨J, r, a, b, m, c⟩ => by
      cases r with
      | nil => exact absurd b (by simp)
      | cons x r =>
        rw [List.map_cons] at b
        injection b with b1 b2
        obtain ⟨e2, J', s1, s2⟩ := step x (m x (List.mem_cons_self ..)) J
        subst a
        refine ⟨some (f x), S ++ J', lcTurn_yes (b1 ▸ s1) s2, J', r, rfl, b2, fun y hy => m y (List.mem_cons_of_mem _ hy), ?_⟩
        rw [← c]
        simp)
    ⟨[], xs, by simp, rfl, fun _ h => h, rfl⟩
  obtain ⟨J, r, a, b, m, c⟩ := h2
  have hr : r = [] := by
    cases r with
    | nil => rfl
    | cons x r => exact absurd b (by simp)
  subst hr
  subst a
  refine ⟨J, ?_⟩
  rw [h1, ← c]
  simp
/-! for loops -/
def fEnd (q : Ev.Ctx) (t : Tg) (b : IB) (src : Src) (f i : Nat) (r : F) : F := match r with
  | .next e S => FLp q t b src f (i + 1) e S
  | .cont e S => FLp q t b src f (i + 1) e S
  | .brk e S => .next e S
  | .ret v S => .ret v S
  | .err c e S => .err c e S
  | .stuck => .stuck
theorem FLp_succ {t : Tg} {b : IB} {src : Src} {f i : Nat} : FLp q t b src (f + 1) i e S = match src.at S i with
    | none => .stuck
    | some none => .next e S
    | some (some v) => match setT t v e with
      | none => .stuck
      | some e => fEnd q t b src f i (evB G LT WW q b e S) := by
  show forLoop _ _ _ _ _ _ _ = _
  rw [forLoop]
  rfl
/-- how a body ends: it goes on, or tells -/
def Ends (N : Ev.Env → Store → Prop) (Q : Val → Store → Prop) (r : F) : Prop := (∃ e S, r = .next e S ∧ N e S) ∨ (∃ v S, r = .ret v S ∧ Q v S)
theorem for_rest {t : Tg} {b : IB} {src : Src} (vs : List Val) (P : List Val → Ev.Env → Store → Prop) (Q : Val → Store → Prop)
    (hat : ∀ rest e S, P rest e S → ∀ i, src.at S i = some vs[i]?)
    (step : ∀ v rest e S, P (v :: rest) e S → ∃ e1, setT t v e = some e1 ∧ Ends (P rest) Q (evB G LT WW q b e1 S)) :
    ∀ (rest pre : List Val) (e : Ev.Env) (S : Store), vs = pre ++ rest → P rest e S → Ends (P []) Q (FLp q t b src (rest.length + 1) pre.length e S)
  | [], pre, e, S, hv, hP => by
    refine .inl ⟨e, S, ?_, hP⟩
    rw [FLp_succ, hat _ _ _ hP, hv]
    simp
  | v :: rest, pre, e, S, hv, hP => by
    obtain ⟨e1, h1, h2⟩ := step v rest e S hP
    have hv' : vs = (pre ++ [v]) ++ rest := by rw [hv]; simp
    have hi : vs[pre.length]? = some v := by rw [hv]; simp
    have hl2 : (pre ++ [v]).length = pre.length + 1 := by simp
    rw [FLp_succ, hat _ _ _ hP, hi]
    simp only [h1]
    show Ends (P []) Q (fEnd q t b src (rest.length + 1) pre.length (evB G LT WW q b e1 S))
    rcases h2 with ⟨e2, S2, h3, h4⟩ | ⟨r, S2, h3, h4⟩
    · rw [h3]
      have ih := for_rest vs P Q hat step rest (pre ++ [v]) e2 S2 hv' h4
      rw [hl2] at ih
      exact ih
    · rw [h3]
      exact .inr ⟨r, S2, rfl, h4⟩
theorem for_run {t : Tg} {b : IB} {src : Src} (vs : List Val) (P : List Val → Ev.Env → Store → Prop) (Q : Val → Store → Prop) (hlen : src.len S = vs.length)
    (hat : ∀ rest e S, P rest e S → ∀ i, src.at S i = some vs[i]?)
    (step : ∀ v rest e S, P (v :: rest) e S → ∃ e1, setT t v e = some e1 ∧ Ends (P rest) Q (evB G LT WW q b e1 S)) (h0 : P vs e S) :
    Ends (P []) Q (FLp q t b src (src.len S + 1) 0 e S) := by
  rw [hlen]
  exact for_rest vs P Q hat step vs [] e S rfl h0
/-! what is walked -/
theorem at_tup (vs : List Val) (i : Nat) : (Src.tup vs).at S i = some vs[i]? := rfl
theorem at_lst {n : Nat} {vs : List Val} (h : S[n]? = some (.lst vs)) (i : Nat) : (Src.lst n).at S i = some vs[i]? := by
  show (match S[n]? with | some (.lst vs) => some vs[i]? | _ => none) = _
  rw [h]
theorem len_lst {n : Nat} {vs : List Val} (h : S[n]? = some (.lst vs)) : (Src.lst n).len S = vs.length := by
  show (match S[n]? with | some (.lst vs) => vs.length | _ => 0) = _
  rw [h]
theorem src_lst {n : Nat} {vs : List Val} (h : S[n]? = some (.lst vs)) : seqop (.obj n) S = .ok (.lst n) S := by
  have e : srcOf S (.obj n) = some (.lst n) := by
    show (match S[n]? with | some (.lst _) => some (Src.lst n) | _ => none) = _
    rw [h]
  show (match srcOf S (.obj n) with | some s => R.ok s S | none => .stuck) = _
  rw [e]
def pr2 (p : Val × Val) : Val := .tup [p.1, p.2]
theorem at_rng (n i : Nat) : (Src.rng n).at S i = some ((List.range n).map fun j => Val.int (j : Nat))[i]? := by
  show some (if i < n then some (Val.int i) else none) = _
  rw [List.getElem?_map]
  by_cases h : i < n
  · rw [if_pos h, List.getElem?_range h]; rfl
  · rw [if_neg h, List.getElem?_eq_none (by simpa using h)]; rfl
end
end Law
end

section
set_option Elab.async false
set_option linter.all false
set_option autoImplicit false
set_option maxRecDepth 100000
namespace Law
open PySem Ev
section
variable {k : Nat} {g : Bool} {S : Store} {q : Ev.Ctx} {e : Ev.Env}
/-! the 65 outs that the law draws, in order -/
def outsX : List (List Int) := [[], [-1], [-1, -1], [-1, 0], [-1, 1], [0], [0, -1], [0, 0], [0, 1], [1], [1, -1], [1, 0], [1, 1]]
def oX (i : Nat) : List Int := outsX.getD (i / 5) []
def oI (i : Nat) : Int := ((i % 5 : Nat) : Int) - 2
def oV (i : Nat) : Val := .tup [.tup ((oX i).map Val.int), .int (oI i)]
def oD (i : Nat) : PyData := .tuple [.tuple ((oX i).map PyData.int), .int (oI i)]
def oK (i : Nat) : NestedKey := .tup [.tup ((oX i).map NestedKey.num), .num (oI i)]
theorem toD_int (d : Nat) (i : Int) : toD S d (.int i) = some (.int i) := by cases d <;> rfl
theorem toD_tup (d : Nat) (vs : List Val) : toD S (d + 1) (.tup vs) = (vs.mapM (toD S d)).map .tuple := rfl
theorem mapM_ints (d : Nat) : ∀ xs : List Int, (xs.map Val.int).mapM (toD S d) = some (xs.map PyData.int)
  | [] => rfl
  | x :: xs => by
    rw [List.map_cons, List.mapM_cons, toD_int]
    show ((xs.map Val.int).mapM (toD S d)).bind (fun r => some (PyData.int x :: r)) = _
    rw [mapM_ints d xs]
    rfl
theorem toD_out (d i : Nat) : toD S (d + 2) (oV i) = some (oD i) := by
  unfold oV
  rw [toD_tup, List.mapM_cons, toD_tup, mapM_ints]
  rw [List.mapM_cons, toD_int]
  rfl
theorem key_int (d : Nat) (i : Int) : keyP d (.int i) = some (.num i) := by cases d <;> rfl
theorem key_tup (d : Nat) (vs : List Val) : keyP (d + 1) (.tup vs) = (vs.mapM (keyP d)).map .tup := rfl
theorem mapK_ints (d : Nat) : ∀ xs : List Int, (xs.map Val.int).mapM (keyP d) = some (xs.map NestedKey.num)
  | [] => rfl
  | x :: xs => by
    rw [List.map_cons, List.mapM_cons, key_int]
    show ((xs.map Val.int).mapM (keyP d)).bind (fun r => some (NestedKey.num x :: r)) = _
    rw [mapK_ints d xs]
    rfl
theorem key_out (i : Nat) : keyOf (oV i) = some (oK i) := by
  show keyP 6 (oV i) = _
  unfold oV
  rw [key_tup, List.mapM_cons, key_tup, mapK_ints]
  rw [List.mapM_cons, key_int]
  rfl
def tableOk : Bool := (List.range 65).all fun i => (List.range 65).all fun j => PySem.W.alike (oD i) (oD j) && (PySem.W.dataLt (oD i) (oD j) == decide (i < j)) && (PySem.W.dataLe false (fun d => d) (oD i) (oD j) == decide (i ≤ j)) && (decide (oK i = oK j) == decide (i = j))
theorem table_ok : tableOk = true := by decide +kernel
theorem table {i j : Nat} (hi : i < 65) (hj : j < 65) : PySem.W.alike (oD i) (oD j) = true ∧ PySem.W.dataLt (oD i) (oD j) = decide (i < j) ∧ PySem.W.dataLe false (fun d => d) (oD i) (oD j) = decide (i ≤ j) ∧ decide (oK i = oK j) = decide (i = j) := by
  have h := table_ok
  unfold tableOk at h
  rw [List.all_eq_true] at h
  have h1 := h i (List.mem_range.mpr hi)
  rw [List.all_eq_true] at h1
  have h2 := h1 j (List.mem_range.mpr hj)
  simp only [Bool.and_eq_true, beq_iff_eq] at h2
  exact ⟨h2.1.1.1, h2.1.1.2, h2.1.2, h2.2⟩
theorem lt_out {i j : Nat} (hi : i < 65) (hj : j < 65) : cmpop .lt (oV i) (oV j) S = .ok (.bl (decide (i < j))) S := by
  obtain ⟨h1, h2, _, _⟩ := table hi hj
  have e : ltD S (oV i) (oV j) = some (decide (i < j)) := by
    show (match toD S deepMost (oV i), toD S deepMost (oV j) with
      | some d, some e => if PySem.W.alike d e = true then some (PySem.W.dataLt d e) else none
      | _, _ => none) = _
    rw [show toD S deepMost (oV i) = some (oD i) from toD_out 10 i, show toD S deepMost (oV j) = some (oD j) from toD_out 10 j]
    show (if PySem.W.alike (oD i) (oD j) = true then some (PySem.W.dataLt (oD i) (oD j)) else none) = _
    rw [if_pos h1, h2]
  show (match ltD S (oV i) (oV j) with | some c => R.ok (Val.bl c) S | none => .stuck) = _
  rw [e]
theorem key_eq {i j : Nat} (hi : i < 65) (hj : j < 65) : (oK i = oK j) ↔ i = j := decide_eq_decide.mp (table hi hj).2.2.2
/-! dicts whose keys are outs -/
def dicOf {α : Type} (f : α → Val) (l : List (Nat × α)) : List (Val × Val) := l.map fun p => (oV p.1, f p.2)
def get {α : Type} (l : List (Nat × α)) (i : Nat) : Option α := (l.find? fun p => p.1 == i).map (·.2)
theorem look_ok {α : Type} (f : α → Val) {i : Nat} (hi : i < 65) : ∀ (l : List (Nat × α)), (∀ p ∈ l, p.1 < 65) → look (dicOf f l) (oK i) = (get l i).map f
  | [], _ => rfl
  | p :: l, h => by
    have ih := look_ok f hi l fun p' h' => h p' (List.mem_cons_of_mem _ h')
    have hp := h p (List.mem_cons_self ..)
    unfold look get at ih ⊢
    unfold dicOf at ih ⊢
    rw [List.map_cons, List.find?_cons, List.find?_cons]
    have hk : decide (keyOf (oV p.1) = some (oK i)) = (p.1 == i) := by
      rw [key_out]
      have := key_eq hp hi
      by_cases h0 : p.1 = i
      · subst h0
        simp
      · have h1 : ¬ oK p.1 = oK i := fun h2 => h0 (this.mp h2)
        simp [h0, h1]
    show Option.map _ (match decide (keyOf (oV p.1) = some (oK i)) with | true => _ | false => _) = _
    rw [hk]
    cases h0 : p.1 == i with
    | true => rfl
    | false => exact ih
theorem any_key {α : Type} (f : α → Val) {i : Nat} (hi : i < 65) (l : List (Nat × α)) (h : ∀ p ∈ l, p.1 < 65) : ((dicOf f l).any fun p => decide (keyOf p.1 = some (oK i))) = (l.any fun p => p.1 == i) := by
  unfold dicOf
  rw [List.any_map]
  apply Bool.eq_iff_iff.mpr
  rw [List.any_eq_true, List.any_eq_true]
  constructor
  · rintro ⟨p, hp, hq⟩
    refine ⟨p, hp, ?_⟩
    have hq' : keyOf (oV p.1) = some (oK i) := of_decide_eq_true hq
    rw [key_out] at hq'
    have := (key_eq (h p hp) hi).mp (Option.some.inj hq')
    simpa using this
  · rintro ⟨p, hp, hq⟩
    refine ⟨p, hp, ?_⟩
    have hq' : p.1 = i := by simpa using hq
    show decide (keyOf (oV p.1) = some (oK i)) = true
    rw [key_out, hq']
    simp
theorem putd_new {α : Type} (f : α → Val) {i : Nat} (hi : i < 65) (l : List (Nat × α)) (h : ∀ p ∈ l, p.1 < 65) (hn : ∀ p ∈ l, p.1 ≠ i) (x : α) : putd (dicOf f l) (oK i) (oV i) (f x) = dicOf f (l ++ [(i, x)]) := by
  unfold putd
  rw [any_key f hi l h]
  have : (l.any fun p => p.1 == i) = false := by
    rw [List.any_eq_false]
    intro p hp
    have := hn p hp
    simpa using this
  rw [this]
  unfold dicOf
  simp
theorem putAll_ok {α : Type} (f : α → Val) : ∀ (l acc : List (Nat × α)), (∀ p ∈ acc ++ l, p.1 < 65) → ((acc ++ l).map (·.1)).Nodup → putAll (dicOf f acc) (dicOf f l) = some (dicOf f (acc ++ l))
  | [], acc, _, _ => by rw [List.append_nil]; rfl
  | p :: l, acc, h, hn => by
    have hp : p.1 < 65 := h p (by simp)
    have hacc : ∀ p' ∈ acc, p'.1 < 65 := fun p' h' => h p' (by simp [h'])
    have hne : ∀ p' ∈ acc, p'.1 ≠ p.1 := by
      intro p' h' he
      rw [List.map_append, List.nodup_append] at hn
      exact hn.2.2 p'.1 (List.mem_map.mpr ⟨p', h', rfl⟩) p.1 (by simp) he
    have e1 : acc ++ p :: l = (acc ++ [p]) ++ l := by simp
    have ih := putAll_ok f l (acc ++ [p]) (by rw [← e1]; exact h) (by rw [← e1]; exact hn)
    rw [e1, ← ih]
    show (match keyOf (oV p.1) with | some kk => putAll (putd (dicOf f acc) kk (oV p.1) (f p.2)) (dicOf f l) | none => none) = _
    rw [key_out]
    show putAll (putd (dicOf f acc) (oK p.1) (oV p.1) (f p.2)) (dicOf f l) = _
    rw [putd_new f hp acc hacc hne]
/-- chances as the program holds them -/
abbrev Frac := Int × Int
def prV (p : Nat × Frac) : Val := .tup [oV p.1, fV p.2]
def chV (l : List (Nat × Frac)) : Val := .tup (l.map prV)
theorem pairs_ok : ∀ l : List (Nat × Frac), pairs (l.map prV) = some (dicOf fV l)
  | [] => rfl
  | p :: l => by
    show (pairs (l.map prV)).map _ = _
    rw [pairs_ok l]
    rfl
/-- right outs, in order, few -/
structure Outs (l : List Nat) : Prop where
  lt : ∀ i ∈ l, i < 65
  up : l.Pairwise (· < ·)
  few : l.length ≤ 70
theorem up_nodup {l : List Nat} (h : l.Pairwise (· < ·)) : l.Nodup := h.imp fun h => by omega
theorem dict_ok (l : List (Nat × Frac)) (h : Outs (l.map (·.1))) (b : Bool) : biop b .dict (chV l) S = .ok (.obj S.length) (S ++ [.dic (dicOf fV l)]) := by
  show (match pairs (l.map prV) with
    | some ps => match putAll [] ps with
      | some kvs => if (l.map prV).length ≤ cap then alloc (.dic kvs) S else .stuck
      | none => .stuck
    | none => .stuck) = _
  rw [pairs_ok]
  have hp := putAll_ok fV l [] (fun p hp => h.lt p.1 (List.mem_map.mpr ⟨p, hp, rfl⟩)) (up_nodup h.up)
  simp only []
  rw [show putAll [] (dicOf fV l) = some (dicOf fV l) from hp]
  have hc : (l.map prV).length ≤ cap := by
    have := h.few
    rw [List.length_map] at this ⊢
    unfold cap
    omega
  simp only [hc, if_true]
  rfl
theorem notin_ok {n i : Nat} {l : List (Nat × Frac)} (hs : S[n]? = some (.dic (dicOf fV l))) (hi : i < 65) (h : ∀ p ∈ l, p.1 < 65) : cmpop .notin (oV i) (.obj n) S = .ok (.bl (!(get l i).isSome)) S := by
  have e : inV S (oV i) (.obj n) = some (get l i).isSome := by
    unfold inV
    rw [key_out]
    simp only [hs]
    rw [look_ok fV hi l h]
    cases get l i <;> rfl
  show (match (inV S (oV i) (.obj n)).map (!·) with | some c => R.ok (Val.bl c) S | none => .stuck) = _
  rw [e]
  rfl
theorem at_dic {n i : Nat} {l : List (Nat × Frac)} {x : Frac} (hs : S[n]? = some (.dic (dicOf fV l))) (hi : i < 65) (h : ∀ p ∈ l, p.1 < 65) (hx : get l i = some x) : idxop (.obj n) (oV i) S = .ok (fV x) S := by
  have e : idxop (.obj n) (oV i) S = (match keyOf (oV i) with | some k => (match S[n]? with | some (.dic kvs) => (match look kvs k with | some v => R.ok v S | none => .stuck) | _ => .stuck) | none => .stuck) := by
    unfold idxop oV
    simp only []
    rw [show keyOf (.tup [.tup ((oX i).map Val.int), .int (oI i)]) = some (oK i) from key_out i] <;> rfl
  rw [e, key_out, hs]
  show (match look (dicOf fV l) (oK i) with | some v => R.ok v S | none => .stuck) = _
  rw [look_ok fV hi l h, hx]
  rfl
theorem get2_dic {n i : Nat} {l : List (Nat × Frac)} {x : Frac} (hs : S[n]? = some (.dic (dicOf fV l))) (hi : i < 65) (h : ∀ p ∈ l, p.1 < 65) : get2op (.obj n) (oV i) (fV x) S = .ok (fV ((get l i).getD x)) S := by
  unfold get2op
  rw [key_out]
  simp only [hs]
  rw [look_ok fV hi l h]
  cases get l i <;> rfl
theorem isDic_ok {n : Nat} {kvs : List (Val × Val)} (hs : S[n]? = some (.dic kvs)) : isDic S (.obj n) = true := by
  show (match S[n]? with | some (.dic _) => true | _ => false) = _
  rw [hs]
end
end Law
end

section
set_option Elab.async false
set_option linter.all false
set_option autoImplicit false
set_option maxRecDepth 100000
namespace Law
open PySem Ev
/-! lowest terms -/
theorem rd_def (a b : Int) : rd a b = (a / ((Nat.gcd a.natAbs b.natAbs : Nat) : Int), ((b.natAbs : Nat) : Int) / ((Nat.gcd a.natAbs b.natAbs : Nat) : Int)) := rfl
theorem rd_parts (a b : Int) (hb : 0 < b) : ∃ g : Int, 0 < g ∧ a = g * (rd a b).1 ∧ b = g * (rd a b).2 := by
  refine ⟨((Nat.gcd a.natAbs b.natAbs : Nat) : Int), ?_, ?_, ?_⟩
  · have := gcd_pos (a := a.natAbs) (b := b.natAbs) (by omega)
    omega
  · have h : ((Nat.gcd a.natAbs b.natAbs : Nat) : Int) ∣ a := Int.ofNat_dvd_left.mpr (Nat.gcd_dvd_left _ _)
    exact (Int.mul_ediv_cancel' h).symm
  · have h : ((Nat.gcd a.natAbs b.natAbs : Nat) : Int) ∣ b := Int.ofNat_dvd_left.mpr (Nat.gcd_dvd_right _ _)
    have e : ((b.natAbs : Nat) : Int) = b := by omega
    rw [rd_def, e]
    exact (Int.mul_ediv_cancel' h).symm
theorem rd_pos (a b : Int) (hb : 0 < b) : 0 < (rd a b).2 := by
  obtain ⟨g, h1, _, h3⟩ := rd_parts a b hb
  rw [h3] at hb
  exact Int.pos_of_mul_pos_left (by rw [Int.mul_comm]; exact hb) h1
theorem rd_cross (a b : Int) (hb : 0 < b) : (rd a b).1 * b = a * (rd a b).2 := by
  obtain ⟨g, h1, h2, h3⟩ := rd_parts a b hb
  generalize (rd a b).1 = x at *
  generalize (rd a b).2 = y at *
  subst h2
  subst h3
  rw [Int.mul_comm g y, ← Int.mul_assoc, Int.mul_comm x y, Int.mul_comm g x, Int.mul_assoc x g y, Int.mul_comm g y, ← Int.mul_assoc, Int.mul_comm x y]
theorem rd_mul (m a b : Int) (hm : 0 < m) (hb : 0 < b) : rd (m * a) (m * b) = rd a b := by
  have e1 : (m * a).natAbs = m.natAbs * a.natAbs := Int.natAbs_mul m a
  have e2 : (m * b).natAbs = m.natAbs * b.natAbs := Int.natAbs_mul m b
  have e3 : ((m.natAbs : Nat) : Int) = m := by omega
  rw [rd_def, rd_def, e1, e2, Nat.gcd_mul_left, Int.natCast_mul, Int.natCast_mul, e3, Int.mul_ediv_mul_of_pos _ _ hm, Int.mul_ediv_mul_of_pos _ _ hm]
theorem rd_eq {a b c d : Int} (hb : 0 < b) (hd : 0 < d) (h : a * d = c * b) : rd a b = rd c d := by
  rw [← rd_mul d a b hd hb, ← rd_mul b c d hb hd, Int.mul_comm d a, h, Int.mul_comm d b, Int.mul_comm c b]
theorem rd_one {s : Int} (hs : 0 < s) : rd s s = (1, 1) := by
  rw [rd_eq (c := 1) (d := 1) hs (by decide) (by omega)]
  rfl
theorem rd_nought {s : Int} (hs : 0 < s) : rd 0 s = (0, 1) := by
  rw [rd_eq (c := 0) (d := 1) hs (by decide) (by omega)]
  rfl
theorem rd_is_one {a s : Int} (hs : 0 < s) : rd a s = (1, 1) ↔ a = s := by
  constructor
  · intro h
    have := rd_cross a s hs
    rw [h] at this
    omega
  · intro h
    rw [h]
    exact rd_one hs
theorem rd_num_pos {a b : Int} (ha : 0 < a) (hb : 0 < b) : 0 < (rd a b).1 := by
  obtain ⟨g, h1, h2, _⟩ := rd_parts a b hb
  rw [h2] at ha
  exact Int.pos_of_mul_pos_left (by rw [Int.mul_comm]; exact ha) h1
theorem rd_num_nonneg {a b : Int} (ha : 0 ≤ a) (hb : 0 < b) : 0 ≤ (rd a b).1 := Int.ediv_nonneg ha (by omega)
theorem part_le {g x a : Int} (hg : 0 < g) (h : a = g * x) : x.natAbs ≤ a.natAbs := by
  rw [h, Int.natAbs_mul]
  exact Nat.le_mul_of_pos_left _ (by omega)
theorem rd_le (a b : Int) (hb : 0 < b) : (rd a b).1.natAbs ≤ a.natAbs ∧ (rd a b).2.natAbs ≤ b.natAbs := by
  obtain ⟨g, h1, h2, h3⟩ := rd_parts a b hb
  exact ⟨part_le h1 h2, part_le h1 h3⟩
theorem rd_coprime (a b : Int) (hb : 0 < b) : Nat.gcd (rd a b).1.natAbs (rd a b).2.natAbs = 1 := by
  have hg := gcd_pos (a := a.natAbs) (b := b.natAbs) (by omega)
  have e1 : (rd a b).1.natAbs = a.natAbs / Nat.gcd a.natAbs b.natAbs := by
    rw [rd_def]
    have h : ((Nat.gcd a.natAbs b.natAbs : Nat) : Int) ∣ a := Int.ofNat_dvd_left.mpr (Nat.gcd_dvd_left _ _)
    show (a / ((Nat.gcd a.natAbs b.natAbs : Nat) : Int)).natAbs = _
    rw [Int.natAbs_ediv_of_dvd h, Int.natAbs_natCast]
  have e2 : (rd a b).2.natAbs = b.natAbs / Nat.gcd a.natAbs b.natAbs := by
    rw [rd_def]
    show (((b.natAbs : Nat) : Int) / ((Nat.gcd a.natAbs b.natAbs : Nat) : Int)).natAbs = _
    rw [← Int.natCast_ediv, Int.natAbs_natCast]
  rw [e1, e2]
  exact Nat.coprime_div_gcd_div_gcd hg
theorem rd_Fr (a b : Int) (hb : 0 < b) (h : b.natAbs < WW) : Fr (rd a b) := ⟨rd_pos a b hb, Nat.lt_of_le_of_lt (rd_le a b hb).2 h, rd_coprime a b hb⟩
def plusF (x y : Frac) : Frac := rd (x.1 * y.2 + y.1 * x.2) (x.2 * y.2)
theorem plus_rd (A B s : Int) (hs : 0 < s) : plusF (rd A s) (rd B s) = rd (A + B) s := by
  have p1 := rd_pos A s hs
  have p2 := rd_pos B s hs
  have c1 := rd_cross A s hs
  have c2 := rd_cross B s hs
  refine rd_eq (Int.mul_pos p1 p2) hs ?_
  generalize (rd A s).1 = a at *
  generalize (rd A s).2 = b at *
  generalize (rd B s).1 = c at *
  generalize (rd B s).2 = d at *
  have : (a * d + c * b) * s = (a * s) * d + (c * s) * b := by
    rw [Int.add_mul, Int.mul_assoc a d s, Int.mul_comm d s, ← Int.mul_assoc, Int.mul_assoc c b s, Int.mul_comm b s, ← Int.mul_assoc]
  rw [this, c1, c2, Int.add_mul, Int.mul_assoc A b d, Int.mul_assoc B d b, Int.mul_comm d b]
/-- short figures of shares -/
def Sm (x : Frac) : Prop := 0 < x.1 ∧ x.1.natAbs ≤ 10 ^ 31 ∧ 0 < x.2 ∧ x.2.natAbs ≤ 10 ^ 31
theorem Sm.sh {x : Frac} (h : Sm x) : ShF x := by
  have e : (10 : Nat) ^ 31 < 10 ^ 98 := by decide
  exact ⟨Nat.lt_of_le_of_lt h.2.1 e, Nat.lt_of_le_of_lt h.2.2.2 e, h.2.2.1⟩
theorem rd_Sm {a b : Int} (ha : 0 < a) (hb : 0 < b) (h1 : a.natAbs ≤ 10 ^ 31) (h2 : b.natAbs ≤ 10 ^ 31) : Sm (rd a b) :=
  ⟨rd_num_pos ha hb, Nat.le_trans (rd_le a b hb).1 h1, rd_pos a b hb, Nat.le_trans (rd_le a b hb).2 h2⟩
theorem rd_ShF {a b : Int} (hb : 0 < b) (h1 : a.natAbs ≤ 10 ^ 62) (h2 : b.natAbs ≤ 10 ^ 62) : ShF (rd a b) := by
  have e : (10 : Nat) ^ 62 < 10 ^ 98 := by decide
  exact ⟨Nat.lt_of_le_of_lt (Nat.le_trans (rd_le a b hb).1 h1) e, Nat.lt_of_le_of_lt (Nat.le_trans (rd_le a b hb).2 h2) e, rd_pos a b hb⟩
theorem mul_62 {a b : Int} (h1 : a.natAbs ≤ 10 ^ 31) (h2 : b.natAbs ≤ 10 ^ 31) : (a * b).natAbs ≤ 10 ^ 62 := by
  rw [Int.natAbs_mul]
  exact Nat.le_trans (Nat.mul_le_mul h1 h2) (by decide)
/-- the odds of one share over another -/
def ovF (x y : Frac) : Frac := rd (x.1 * y.2) (x.2 * y.1)
theorem ov_ShF {x y : Frac} (hx : Sm x) (hy : Sm y) : ShF (ovF x y) := rd_ShF (Int.mul_pos hx.2.2.1 hy.1) (mul_62 hx.2.1 hy.2.2.2) (mul_62 hx.2.2.2 hy.2.1)
theorem ov_pos {x y : Frac} (hx : Sm x) (hy : Sm y) : 0 < (ovF x y).1 := rd_num_pos (Int.mul_pos hx.1 hy.2.2.1) (Int.mul_pos hx.2.2.1 hy.1)
end Law
end

section
set_option Elab.async false
set_option linter.all false
set_option autoImplicit false
set_option maxRecDepth 100000
namespace Law
open PySem Ev
section
variable {k : Nat} {g : Bool} {S : Store} {q : Ev.Ctx} {e : Ev.Env}
theorem seq_t (vs : List Val) : seqop (.tup vs) S = .ok (.tup vs) S := rfl
theorem cut_drop (vs : List Val) (n : Nat) : cut vs (some (n : Int)) none = vs.drop n := by
  unfold cut
  rw [HT.sIx_none, HT.sIx_nat]
  by_cases h : n ≤ vs.length
  · rw [Nat.min_eq_left h]
    apply List.take_of_length_le
    rw [List.length_drop]
    omega
  · rw [Nat.min_eq_right (by omega), List.drop_eq_nil_of_le (Nat.le_refl _), List.drop_eq_nil_of_le (by omega), List.take_nil]
theorem cut_take (vs : List Val) (n : Nat) : cut vs none (some (n : Int)) = vs.take n := by
  unfold cut
  rw [HT.sIx_none, HT.sIx_nat]
  rw [List.drop_zero, Nat.sub_zero]
  by_cases h : n ≤ vs.length
  · rw [Nat.min_eq_left h]
  · rw [Nat.min_eq_right (by omega), List.take_of_length_le (Nat.le_refl _), List.take_of_length_le (by omega)]
theorem slc_t1 (vs : List Val) : slcop (.tup vs) (some 1) none S = .ok (.tup (vs.drop 1)) S := by
  show R.ok (Val.tup (cut vs (some ((1 : Nat) : Int)) none)) S = _
  rw [cut_drop]
theorem slc_th (vs : List Val) (n : Nat) : slcop (.tup vs) none (some (n : Int)) S = .ok (.tup (vs.take n)) S := by
  show R.ok (Val.tup (cut vs none (some (n : Int)))) S = _
  rw [cut_take]
theorem slc_oh {m : Nat} {vs : List Val} (hs : S[m]? = some (.lst vs)) (n : Nat) : slcop (.obj m) none (some (n : Int)) S = .ok (.obj S.length) (S ++ [.lst (vs.take n)]) := by
  have e : seqOf S (.obj m) = some vs := by
    show (match S[m]? with | some (.lst vs) => some vs | _ => none) = _
    rw [hs]
  show (match seqOf S (.obj m) with | some vs => alloc (.lst (cut vs none (some (n : Int)))) S | none => .stuck) = _
  rw [e]
  show alloc (.lst (cut vs none (some (n : Int)))) S = _
  rw [cut_take]
  rfl
theorem at_zip (xs ys : List Val) (i : Nat) : (Src.zip (.tup xs) (.tup ys)).at S i = some ((xs.zip ys).map pr2)[i]? := by
  rw [List.getElem?_map]
  have hz : (xs.zip ys)[i]? = match xs[i]?, ys[i]? with | some a, some b => some (a, b) | _, _ => none := by
    rw [show xs.zip ys = List.zipWith Prod.mk xs ys from rfl, List.getElem?_zipWith]
    cases xs[i]? <;> cases ys[i]? <;> rfl
  show (match some xs[i]?, some ys[i]? with
    | some (some x), some (some y) => some (some (Val.tup [x, y]))
    | some none, some _ => some none
    | some (some _), some none => some none
    | _, _ => none) = _
  rw [hz]
  cases xs[i]? <;> cases ys[i]? <;> rfl
theorem boolsOf_map {α : Type} (f : α → Bool) : ∀ xs : List α, boolsOf (xs.map fun x => Val.bl (f x)) = some (xs.map f)
  | [] => rfl
  | x :: xs => by
    show (boolsOf (xs.map fun x => Val.bl (f x))).map _ = _
    rw [boolsOf_map f xs]
    rfl
theorem all_ok {α : Type} {n : Nat} (f : α → Bool) (xs : List α) (hs : S[n]? = some (.lst (xs.map fun x => Val.bl (f x)))) (b : Bool) : biop b .all (.obj n) S = .ok (.bl (xs.all f)) S := by
  show (match S[n]? with | some (.lst vs) => (match boolsOf vs with | some bs => R.ok (Val.bl (bs.all id)) S | none => .stuck) | _ => .stuck) = _
  rw [hs]
  show (match boolsOf (xs.map fun x => Val.bl (f x)) with | some bs => R.ok (Val.bl (bs.all id)) S | none => .stuck) = _
  rw [boolsOf_map]
  show R.ok (Val.bl ((xs.map f).all id)) S = _
  rw [List.all_map]
  rfl
theorem tuple_ok {n : Nat} {vs : List Val} (hs : S[n]? = some (.lst vs)) (b : Bool) : biop b .tuple (.obj n) S = .ok (.tup vs) S := by
  have e : seqOf S (.obj n) = some vs := by
    show (match S[n]? with | some (.lst vs) => some vs | _ => none) = _
    rw [hs]
  show (match seqOf S (.obj n) with | some vs => R.ok (Val.tup vs) S | none => .stuck) = _
  rw [e]
/-- at each later store the call tells v, and the store only grows -/
def Ans (n : Nat) (g : Bool) (f : Nat) (args : List Val) (v : Val) (S : Store) : Prop := ∀ J, ∃ J', CC n g f args (S ++ J) = .ok v (S ++ J ++ J')
theorem Ans.app {n f : Nat} {args : List Val} {v : Val} (h : Ans n g f args v S) (J : Store) : Ans n g f args v (S ++ J) := fun J2 => by
  obtain ⟨J', h'⟩ := h (J ++ J2)
  refine ⟨J', ?_⟩
  rw [List.append_assoc S J J2]
  exact h'
theorem Ans.now {n f : Nat} {args : List Val} {v : Val} (h : Ans n g f args v S) : ∃ J', CC n g f args S = .ok v (S ++ J') := by
  obtain ⟨J', h'⟩ := h []
  refine ⟨J', ?_⟩
  rw [List.append_nil] at h'
  exact h'
theorem Ans.of {n f : Nat} {args : List Val} {v : Val} (h : ∀ S, ∃ J', CC n g f args S = .ok v (S ++ J')) : Ans n g f args v S := fun J => h (S ++ J)
theorem is_out_ok (xs : List Int) (v : Int) (hx : xs.length ≤ cap) : ∃ J, CC (k + 4) g 9 [.tup [.tup (xs.map Val.int), .int v]] S = .ok (.bl true) (S ++ J) := by
  obtain ⟨J, hJ⟩ := lc_map (q := ⟨CC (k + 3) g, CC (k + 1) false, g⟩) (S := S) (e := [some (.tup [.tup (xs.map Val.int), .int v]), none]) (own := [1]) (elt := .call 0 (.cons (.var 1) .nil)) (tg := .name 1) (src := .tup (xs.map Val.int)) xs Val.int (fun _ => .bl true) rfl (List.length_map ..) hx (fun J n => rfl) (fun x _ J => ⟨[some (.tup [.tup (xs.map Val.int), .int v]), some (.int x)], J, rfl, rfl⟩)
  refine ⟨J ++ [.lst (xs.map fun _ => .bl true)], ?_⟩
  rw [C_at (k := k + 1) (np := 1) (nn := 2) (body := b_is_out) rfl rfl]
  simp only [b_cons, b_nil, s_asg, s_par, s_sub, s_ret, s_expr, s_ife, s_whl, s_for, s_raise, s_pass, e_cst, e_glb0, e_glb1, e_glb2, e_glb3, e_var, e_tup, e_lst, e_dnew, e_bin, e_neg, e_not, e_and, e_or, e_cmp, e_chn, e_ife, e_idx, e_slc, e_rev, e_call, e_bi, e_isi, e_app, e_get2, e_lam, e_lc, l_nil, l_cons, o_none, o_some, i_seq, i_range, i_zip, bind_ok, bind_err, toF_ok, toF_err, fbind_next, fbind_ret, fbind_err, asB_ok, asI_ok, asB_err, truth_ok, truth_err, set_name, set_tup, set_nil, set_cons, fend_next, fend_ret, fend_err, List.length_cons, List.length_nil, List.length_set, List.map_cons, List.map_nil, List.cons_append, List.nil_append, List.getElem?_cons_zero, List.getElem?_cons_succ, List.set_cons_zero, List.set_cons_succ, if_true, if_false, Bool.false_eq_true, Bool.not_true, Bool.not_false, reduceIte, and_self, Nat.reduceAdd, Nat.reduceLT, Nat.reduceLeDiff, Nat.reduceSub, Nat.reduceEqDiff, List.replicate_succ, List.replicate_zero, b_is_out, isi_tt, len2, ne_ii, beq_self_eq_true, ix0, ix1, is_integer_int, seq_t, hJ, all_ok (fun _ => true) xs app_last]
  simp
theorem oX_len (i : Nat) : (oX i).length ≤ 2 := by
  unfold oX
  rw [List.getD_eq_getElem?_getD]
  cases h : outsX[i / 5]? with
  | none => decide
  | some l =>
    have hm := List.mem_of_getElem? h
    have ht : ∀ l ∈ outsX, l.length ≤ 2 := by decide
    exact ht l hm
theorem is_out_oV (i : Nat) : Ans (k + 4) g 9 [oV i] (.bl true) S := .of fun S => is_out_ok (oX i) (oI i) (by have := oX_len i; unfold cap; omega)
/-- the lap of are_outs over the outs -/
theorem outs_lap (vs : List Val) (bo : Val → Bool) (hc : vs.length ≤ cap) (h : ∀ v ∈ vs, Ans (k + 4) g 9 [v] (.bl (bo v)) S) (x1 x2 : Option Val) :
    ∃ J, lcStart ⟨CC (k + 4) g, CC (k + 2) false, g⟩ [3] (.call 9 (.cons (.var 3) .nil)) (.name 3) .none [some (.tup vs), x1, x2, none] (.ok (.tup vs) S) = .ok (.obj (S ++ J).length) (S ++ J ++ [.lst (vs.map fun v => .bl (bo v))]) :=
  lc_map (q := ⟨CC (k + 4) g, CC (k + 2) false, g⟩) (S := S) vs id (fun v => .bl (bo v)) rfl rfl hc (fun J n => by rw [List.map_id]; rfl) (fun v hv J => by
    obtain ⟨J', h'⟩ := h v hv J
    refine ⟨[some (.tup vs), x1, x2, some v], J ++ J', rfl, ?_⟩
    simp only [b_cons, b_nil, s_asg, s_par, s_sub, s_ret, s_expr, s_ife, s_whl, s_for, s_raise, s_pass, e_cst, e_glb0, e_glb1, e_glb2, e_glb3, e_var, e_tup, e_lst, e_dnew, e_bin, e_neg, e_not, e_and, e_or, e_cmp, e_chn, e_ife, e_idx, e_slc, e_rev, e_call, e_bi, e_isi, e_app, e_get2, e_lam, e_lc, l_nil, l_cons, o_none, o_some, i_seq, i_range, i_zip, bind_ok, bind_err, toF_ok, toF_err, fbind_next, fbind_ret, fbind_err, asB_ok, asI_ok, asB_err, truth_ok, truth_err, set_name, set_tup, set_nil, set_cons, fend_next, fend_ret, fend_err, List.length_cons, List.length_nil, List.length_set, List.map_cons, List.map_nil, List.cons_append, List.nil_append, List.getElem?_cons_zero, List.getElem?_cons_succ, List.set_cons_zero, List.set_cons_succ, if_true, if_false, Bool.false_eq_true, Bool.not_true, Bool.not_false, reduceIte, and_self, Nat.reduceAdd, Nat.reduceLT, Nat.reduceLeDiff, Nat.reduceSub, Nat.reduceEqDiff, List.replicate_succ, List.replicate_zero, h']
    rw [List.append_assoc])
theorem are_outs_no (vs : List Val) (bo : Val → Bool) (hc : vs.length ≤ cap) (h : ∀ S, ∀ v ∈ vs, Ans (k + 4) g 9 [v] (.bl (bo v)) S) (hn : vs.all bo = false) : Ans (k + 5) g 10 [.tup vs] (.bl false) S := .of fun S => by
  obtain ⟨J, hJ⟩ := outs_lap (k := k) (g := g) (S := S) vs bo hc (h S) none none
  refine ⟨J ++ [.lst (vs.map fun v => .bl (bo v))], ?_⟩
  rw [C_at (k := k + 2) (np := 1) (nn := 4) (body := b_are_outs) rfl rfl]
  simp only [b_cons, b_nil, s_asg, s_par, s_sub, s_ret, s_expr, s_ife, s_whl, s_for, s_raise, s_pass, e_cst, e_glb0, e_glb1, e_glb2, e_glb3, e_var, e_tup, e_lst, e_dnew, e_bin, e_neg, e_not, e_and, e_or, e_cmp, e_chn, e_ife, e_idx, e_slc, e_rev, e_call, e_bi, e_isi, e_app, e_get2, e_lam, e_lc, l_nil, l_cons, o_none, o_some, i_seq, i_range, i_zip, bind_ok, bind_err, toF_ok, toF_err, fbind_next, fbind_ret, fbind_err, asB_ok, asI_ok, asB_err, truth_ok, truth_err, set_name, set_tup, set_nil, set_cons, fend_next, fend_ret, fend_err, List.length_cons, List.length_nil, List.length_set, List.map_cons, List.map_nil, List.cons_append, List.nil_append, List.getElem?_cons_zero, List.getElem?_cons_succ, List.set_cons_zero, List.set_cons_succ, if_true, if_false, Bool.false_eq_true, Bool.not_true, Bool.not_false, reduceIte, and_self, Nat.reduceAdd, Nat.reduceLT, Nat.reduceLeDiff, Nat.reduceSub, Nat.reduceEqDiff, List.replicate_succ, List.replicate_zero, b_are_outs, isi_tt, seq_t, hJ, all_ok bo vs app_last, hn]
  rw [List.append_assoc]
/-- adjacent ones are in order -/
def adj (l : List Nat) : Bool := (l.zip (l.drop 1)).all fun p => decide (p.1 < p.2)
theorem all_true {α : Type} (xs : List α) : (xs.all fun _ => true) = true := by rw [List.all_eq_true]; exact fun _ _ => rfl
theorem are_outs_ok (l : List Nat) (hl : ∀ i ∈ l, i < 65) (hc : l.length ≤ 70) : Ans (k + 5) g 10 [.tup (l.map oV)] (.bl (adj l)) S := .of fun S => by
  obtain ⟨J, hJ⟩ := outs_lap (k := k) (g := g) (S := S) (l.map oV) (fun _ => true) (by rw [List.length_map]; unfold cap; omega) (fun v hv => by
    obtain ⟨i, _, rfl⟩ := List.mem_map.mp hv
    exact is_out_oV i) none none
  obtain ⟨J2, hJ2⟩ := lc_map (q := ⟨CC (k + 4) g, CC (k + 2) false, g⟩) (S := S ++ J ++ [.lst ((l.map oV).map fun _ => .bl true)]) (e := [some (.tup (l.map oV)), none, none, none]) (own := [1, 2]) (elt := .cmp .lt (.var 1) (.var 2)) (tg := .tup (.cons (.name 1) (.cons (.name 2) .nil))) (src := .zip (.tup (l.map oV)) (.tup ((l.map oV).drop 1)))
    (l.zip (l.drop 1)) (fun p => .tup [oV p.1, oV p.2]) (fun p => .bl (decide (p.1 < p.2))) rfl
    (by
      show min (l.map oV).length ((l.map oV).drop 1).length = _
      rw [List.length_zip, List.length_map, List.length_drop, List.length_drop, List.length_map])
    (by rw [List.length_zip]; unfold cap; omega)
    (fun J n => by
      rw [at_zip, ← List.map_drop, List.zip_map, List.map_map]
      rfl)
    (fun p hp J => by
      obtain ⟨a, b⟩ := p
      have ha := hl a (List.of_mem_zip hp).1
      have hb := hl b (List.mem_of_mem_drop (List.of_mem_zip hp).2)
      refine ⟨[some (.tup (l.map oV)), some (oV a), some (oV b), none], J, rfl, ?_⟩
      simp only [b_cons, b_nil, s_asg, s_par, s_sub, s_ret, s_expr, s_ife, s_whl, s_for, s_raise, s_pass, e_cst, e_glb0, e_glb1, e_glb2, e_glb3, e_var, e_tup, e_lst, e_dnew, e_bin, e_neg, e_not, e_and, e_or, e_cmp, e_chn, e_ife, e_idx, e_slc, e_rev, e_call, e_bi, e_isi, e_app, e_get2, e_lam, e_lc, l_nil, l_cons, o_none, o_some, i_seq, i_range, i_zip, bind_ok, bind_err, toF_ok, toF_err, fbind_next, fbind_ret, fbind_err, asB_ok, asI_ok, asB_err, truth_ok, truth_err, set_name, set_tup, set_nil, set_cons, fend_next, fend_ret, fend_err, List.length_cons, List.length_nil, List.length_set, List.map_cons, List.map_nil, List.cons_append, List.nil_append, List.getElem?_cons_zero, List.getElem?_cons_succ, List.set_cons_zero, List.set_cons_succ, if_true, if_false, Bool.false_eq_true, Bool.not_true, Bool.not_false, reduceIte, and_self, Nat.reduceAdd, Nat.reduceLT, Nat.reduceLeDiff, Nat.reduceSub, Nat.reduceEqDiff, List.replicate_succ, List.replicate_zero, lt_out ha hb])
  refine ⟨J ++ [.lst ((l.map oV).map fun _ => .bl true)] ++ J2 ++ [.lst ((l.zip (l.drop 1)).map fun p => .bl (decide (p.1 < p.2)))], ?_⟩
  rw [C_at (k := k + 2) (np := 1) (nn := 4) (body := b_are_outs) rfl rfl]
  have hz : ∀ S : Store, zipop (.tup (l.map oV)) (.tup ((l.map oV).drop 1)) S = .ok (.zip (.tup (l.map oV)) (.tup ((l.map oV).drop 1))) S := fun _ => rfl
  simp only [b_cons, b_nil, s_asg, s_par, s_sub, s_ret, s_expr, s_ife, s_whl, s_for, s_raise, s_pass, e_cst, e_glb0, e_glb1, e_glb2, e_glb3, e_var, e_tup, e_lst, e_dnew, e_bin, e_neg, e_not, e_and, e_or, e_cmp, e_chn, e_ife, e_idx, e_slc, e_rev, e_call, e_bi, e_isi, e_app, e_get2, e_lam, e_lc, l_nil, l_cons, o_none, o_some, i_seq, i_range, i_zip, bind_ok, bind_err, toF_ok, toF_err, fbind_next, fbind_ret, fbind_err, asB_ok, asI_ok, asB_err, truth_ok, truth_err, set_name, set_tup, set_nil, set_cons, fend_next, fend_ret, fend_err, List.length_cons, List.length_nil, List.length_set, List.map_cons, List.map_nil, List.cons_append, List.nil_append, List.getElem?_cons_zero, List.getElem?_cons_succ, List.set_cons_zero, List.set_cons_succ, if_true, if_false, Bool.false_eq_true, Bool.not_true, Bool.not_false, reduceIte, and_self, Nat.reduceAdd, Nat.reduceLT, Nat.reduceLeDiff, Nat.reduceSub, Nat.reduceEqDiff, List.replicate_succ, List.replicate_zero, b_are_outs, isi_tt, seq_t, hJ, all_ok (fun _ => true) (l.map oV) app_last, all_true, slc_t1, hz, hJ2, all_ok (fun p : Nat × Nat => decide (p.1 < p.2)) (l.zip (l.drop 1)) app_last]
  simp only [List.append_assoc]
  rfl
theorem adj_up : ∀ {l : List Nat}, l.Pairwise (· < ·) → adj l = true
  | [], _ => rfl
  | [_], _ => rfl
  | a :: b :: l, h => by
    have h1 := adj_up (List.pairwise_cons.mp h).2
    have h2 := (List.pairwise_cons.mp h).1 b (List.mem_cons_self ..)
    unfold adj at h1 ⊢
    simp only [List.drop_succ_cons, List.drop_zero, List.zip_cons_cons, List.all_cons] at h1 ⊢
    rw [h1]
    simpa using h2
end
end Law
end

section
set_option Elab.async false
set_option linter.all false
set_option autoImplicit false
set_option maxRecDepth 100000
namespace Law
open PySem Ev
section
variable {k : Nat} {g : Bool} {S : Store} {q : Ev.Ctx} {e : Ev.Env}
theorem is_fraction_gen (x : Frac) (h1 : 0 < x.2) (h2 : x.2.natAbs < WW) : CC (k + 4) g 2 [fV x] S = .ok (.bl (decide (Nat.gcd x.1.natAbs x.2.natAbs = 1))) S := by
  obtain ⟨a, b⟩ := x
  simp only at h1 h2
  rw [C_at (k := k + 1) (np := 1) (nn := 1) (body := b_is_fraction) rfl rfl]
  have eb : b = ((b.natAbs : Nat) : Int) := by omega
  have hc := common_ok (k := k) (g := g) (S := S) a.natAbs b.natAbs h2
  rw [← eb] at hc
  have e1 : decide ((0 : Int) < b) = true := by simpa using h1
  have e2 : (((Nat.gcd a.natAbs b.natAbs : Nat) : Int) == 1) = decide (Nat.gcd a.natAbs b.natAbs = 1) := by
    rw [Bool.eq_iff_iff]
    simp only [beq_iff_eq, decide_eq_true_eq]
    omega
  simp only [b_cons, b_nil, s_asg, s_par, s_sub, s_ret, s_expr, s_ife, s_whl, s_for, s_raise, s_pass, e_cst, e_glb0, e_glb1, e_glb2, e_glb3, e_var, e_tup, e_lst, e_dnew, e_bin, e_neg, e_not, e_and, e_or, e_cmp, e_chn, e_ife, e_idx, e_slc, e_rev, e_call, e_bi, e_isi, e_app, e_get2, e_lam, e_lc, l_nil, l_cons, o_none, o_some, i_seq, i_range, i_zip, bind_ok, bind_err, toF_ok, toF_err, fbind_next, fbind_ret, fbind_err, asB_ok, asI_ok, asB_err, truth_ok, truth_err, set_name, set_tup, set_nil, set_cons, fend_next, fend_ret, fend_err, List.length_cons, List.length_nil, List.length_set, List.map_cons, List.map_nil, List.cons_append, List.nil_append, List.getElem?_cons_zero, List.getElem?_cons_succ, List.set_cons_zero, List.set_cons_succ, if_true, if_false, Bool.false_eq_true, Bool.not_true, Bool.not_false, reduceIte, and_self, Nat.reduceAdd, Nat.reduceLT, Nat.reduceLeDiff, Nat.reduceSub, Nat.reduceEqDiff, List.replicate_succ, List.replicate_zero, b_is_fraction, fV, isi_tt, len2, beq_self_eq_true, ne_ii, eq_ii, gt_ii, ix0, ix1, is_integer_int, abs_i, hc, e1, e2]
theorem is_chance_no (x : Frac) (h1 : 0 < x.2) (h2 : x.2.natAbs < WW) (h : Nat.gcd x.1.natAbs x.2.natAbs ≠ 1) : CC (k + 5) g 3 [fV x] S = .ok (.bl false) S := by
  rw [C_at (k := k + 2) (np := 1) (nn := 1) (body := b_is_chance) rfl rfl]
  have hc := is_fraction_gen (k := k) (g := g) (S := S) x h1 h2
  rw [decide_eq_false h] at hc
  simp only [b_cons, b_nil, s_asg, s_par, s_sub, s_ret, s_expr, s_ife, s_whl, s_for, s_raise, s_pass, e_cst, e_glb0, e_glb1, e_glb2, e_glb3, e_var, e_tup, e_lst, e_dnew, e_bin, e_neg, e_not, e_and, e_or, e_cmp, e_chn, e_ife, e_idx, e_slc, e_rev, e_call, e_bi, e_isi, e_app, e_get2, e_lam, e_lc, l_nil, l_cons, o_none, o_some, i_seq, i_range, i_zip, bind_ok, bind_err, toF_ok, toF_err, fbind_next, fbind_ret, fbind_err, asB_ok, asI_ok, asB_err, truth_ok, truth_err, set_name, set_tup, set_nil, set_cons, fend_next, fend_ret, fend_err, List.length_cons, List.length_nil, List.length_set, List.map_cons, List.map_nil, List.cons_append, List.nil_append, List.getElem?_cons_zero, List.getElem?_cons_succ, List.set_cons_zero, List.set_cons_succ, if_true, if_false, Bool.false_eq_true, Bool.not_true, Bool.not_false, reduceIte, and_self, Nat.reduceAdd, Nat.reduceLT, Nat.reduceLeDiff, Nat.reduceSub, Nat.reduceEqDiff, List.replicate_succ, List.replicate_zero, b_is_chance, hc]
theorem eqv_ff (a b c d : Int) : PyData.eqv (.tuple [.int a, .int b]) (.tuple [.int c, .int d]) = (a == c && b == d) := by simp [PyData.eqv, PyData.eqvAll]
theorem toD_f (d : Nat) (x : Frac) : toD S (d + 1) (fV x) = some (.tuple [.int x.1, .int x.2]) := by
  show ([Val.int x.1, .int x.2].mapM (toD S d)).map PyData.tuple = _
  rw [List.mapM_cons, List.mapM_cons, toD_int, toD_int]
  rfl
theorem eqD_f (x y : Frac) : eqD S (fV x) (fV y) = some (x.1 == y.1 && x.2 == y.2) := by
  unfold eqD
  rw [show toD S deepMost (fV x) = _ from toD_f 11 x, show toD S deepMost (fV y) = _ from toD_f 11 y]
  simp only [eqv_ff]
theorem eq_f (x y : Frac) : cmpop .eq (fV x) (fV y) S = .ok (.bl (x.1 == y.1 && x.2 == y.2)) S := by
  show (match eqD S (fV x) (fV y) with | some c => R.ok (Val.bl c) S | none => .stuck) = _
  rw [eqD_f]
theorem ne_f (x y : Frac) : cmpop .ne (fV x) (fV y) S = .ok (.bl (!(x.1 == y.1 && x.2 == y.2))) S := by
  show (match (eqD S (fV x) (fV y)).map (!·) with | some c => R.ok (Val.bl c) S | none => .stuck) = _
  rw [eqD_f]
  rfl
theorem glb0_f : evE G LT (.glb 0) q e S = .ok (fV (0, 1)) S := rfl
theorem glb1_f : evE G LT (.glb 1) q e S = .ok (fV (1, 1)) S := rfl
/-- the test of a chance -/
def elt3 : IE := .and (.call 3 (.cons (.idx (.var 4) (.cst (.int 1))) .nil)) (.cmp .ne (.idx (.var 4) (.cst (.int 1))) (.glb 0))
def ChAt (k : Nat) (g : Bool) (v : Val) (b : Bool) : Prop := ∀ (S : Store) (x0 x1 x2 x3 : Option Val) (a : Val), evE G LT elt3 ⟨CC (k + 7) g, CC (k + 5) false, g⟩ [x0, x1, x2, x3, some (.tup [a, v])] S = .ok (.bl b) S
theorem chAt_ok {x : Frac} (h : Fr x) (h1 : 0 < x.1) (h2 : x.1 ≤ x.2) : ChAt k g (fV x) true := by
  intro S x0 x1 x2 x3 a
  have hc := is_chance_ok (k := k + 2) (g := g) (S := S) x h
  rw [decide_eq_true (Int.le_of_lt h1), decide_eq_true h2] at hc
  have e1 : (x.1 == 0 && x.2 == 1) = false := by
    have : (x.1 == 0) = false := by
      rw [beq_eq_false_iff_ne]
      omega
    rw [this]
    rfl
  have g0 : ∀ (q : Ev.Ctx) (e : Ev.Env) (S : Store), evE G LT (.glb 0) q e S = .ok (fV (0, 1)) S := fun _ _ _ => rfl
  unfold elt3
  simp only [e_and, e_cmp, g0, e_call, l_cons, l_nil, e_idx, e_var, e_cst, bind_ok, truth_ok, List.getElem?_cons_zero, List.getElem?_cons_succ, ix1, hc, Bool.and_self, if_true, ne_f, e1, Bool.not_false]
theorem chAt_no {x : Frac} (h1 : 0 < x.2) (h2 : x.2.natAbs < WW) (h : Nat.gcd x.1.natAbs x.2.natAbs ≠ 1) : ChAt k g (fV x) false := by
  intro S x0 x1 x2 x3 a
  have hc := is_chance_no (k := k + 2) (g := g) (S := S) x h1 h2 h
  unfold elt3
  simp only [b_cons, b_nil, s_asg, s_par, s_sub, s_ret, s_expr, s_ife, s_whl, s_for, s_raise, s_pass, e_cst, e_glb0, e_glb1, e_glb2, e_glb3, e_var, e_tup, e_lst, e_dnew, e_bin, e_neg, e_not, e_and, e_or, e_cmp, e_chn, e_ife, e_idx, e_slc, e_rev, e_call, e_bi, e_isi, e_app, e_get2, e_lam, e_lc, l_nil, l_cons, o_none, o_some, i_seq, i_range, i_zip, bind_ok, bind_err, toF_ok, toF_err, fbind_next, fbind_ret, fbind_err, asB_ok, asI_ok, asB_err, truth_ok, truth_err, set_name, set_tup, set_nil, set_cons, fend_next, fend_ret, fend_err, List.length_cons, List.length_nil, List.length_set, List.map_cons, List.map_nil, List.cons_append, List.nil_append, List.getElem?_cons_zero, List.getElem?_cons_succ, List.set_cons_zero, List.set_cons_succ, if_true, if_false, Bool.false_eq_true, Bool.not_true, Bool.not_false, reduceIte, and_self, Nat.reduceAdd, Nat.reduceLT, Nat.reduceLeDiff, Nat.reduceSub, Nat.reduceEqDiff, List.replicate_succ, List.replicate_zero, ix1, hc]
theorem chAt_big {x : Frac} (h : Fr x) (h2 : x.2 < x.1) : ChAt k g (fV x) false := by
  intro S x0 x1 x2 x3 a
  have hc := is_chance_ok (k := k + 2) (g := g) (S := S) x h
  rw [decide_eq_false (show ¬ x.1 ≤ x.2 by omega), Bool.and_false] at hc
  unfold elt3
  simp only [b_cons, b_nil, s_asg, s_par, s_sub, s_ret, s_expr, s_ife, s_whl, s_for, s_raise, s_pass, e_cst, e_glb0, e_glb1, e_glb2, e_glb3, e_var, e_tup, e_lst, e_dnew, e_bin, e_neg, e_not, e_and, e_or, e_cmp, e_chn, e_ife, e_idx, e_slc, e_rev, e_call, e_bi, e_isi, e_app, e_get2, e_lam, e_lc, l_nil, l_cons, o_none, o_some, i_seq, i_range, i_zip, bind_ok, bind_err, toF_ok, toF_err, fbind_next, fbind_ret, fbind_err, asB_ok, asI_ok, asB_err, truth_ok, truth_err, set_name, set_tup, set_nil, set_cons, fend_next, fend_ret, fend_err, List.length_cons, List.length_nil, List.length_set, List.map_cons, List.map_nil, List.cons_append, List.nil_append, List.getElem?_cons_zero, List.getElem?_cons_succ, List.set_cons_zero, List.set_cons_succ, if_true, if_false, Bool.false_eq_true, Bool.not_true, Bool.not_false, reduceIte, and_self, Nat.reduceAdd, Nat.reduceLT, Nat.reduceLeDiff, Nat.reduceSub, Nat.reduceEqDiff, List.replicate_succ, List.replicate_zero, ix1, hc]
theorem chAt_neg {x : Frac} (h : Fr x) (h2 : x.1 < 0) : ChAt k g (fV x) false := by
  intro S x0 x1 x2 x3 a
  have hc := is_chance_ok (k := k + 2) (g := g) (S := S) x h
  rw [decide_eq_false (show ¬ 0 ≤ x.1 by omega), Bool.false_and] at hc
  unfold elt3
  simp only [b_cons, b_nil, s_asg, s_par, s_sub, s_ret, s_expr, s_ife, s_whl, s_for, s_raise, s_pass, e_cst, e_glb0, e_glb1, e_glb2, e_glb3, e_var, e_tup, e_lst, e_dnew, e_bin, e_neg, e_not, e_and, e_or, e_cmp, e_chn, e_ife, e_idx, e_slc, e_rev, e_call, e_bi, e_isi, e_app, e_get2, e_lam, e_lc, l_nil, l_cons, o_none, o_some, i_seq, i_range, i_zip, bind_ok, bind_err, toF_ok, toF_err, fbind_next, fbind_ret, fbind_err, asB_ok, asI_ok, asB_err, truth_ok, truth_err, set_name, set_tup, set_nil, set_cons, fend_next, fend_ret, fend_err, List.length_cons, List.length_nil, List.length_set, List.map_cons, List.map_nil, List.cons_append, List.nil_append, List.getElem?_cons_zero, List.getElem?_cons_succ, List.set_cons_zero, List.set_cons_succ, if_true, if_false, Bool.false_eq_true, Bool.not_true, Bool.not_false, reduceIte, and_self, Nat.reduceAdd, Nat.reduceLT, Nat.reduceLeDiff, Nat.reduceSub, Nat.reduceEqDiff, List.replicate_succ, List.replicate_zero, ix1, hc]
theorem chAt_nought : ChAt k g (fV (0, 1)) false := by
  intro S x0 x1 x2 x3 a
  have hc := is_chance_ok (k := k + 2) (g := g) (S := S) (0, 1) ⟨by decide, of_decide_eq_true rfl, by decide⟩
  have g0 : ∀ (q : Ev.Ctx) (e : Ev.Env) (S : Store), evE G LT (.glb 0) q e S = .ok (fV (0, 1)) S := fun _ _ _ => rfl
  have hc' : CC (k + 7) g 3 [fV (0, 1)] S = .ok (.bl true) S := hc
  unfold elt3
  simp only [e_and, e_cmp, g0, e_call, l_cons, l_nil, e_idx, e_var, e_cst, bind_ok, truth_ok, List.getElem?_cons_zero, List.getElem?_cons_succ, ix1, hc', if_true, ne_f, beq_self_eq_true, Bool.and_self, Bool.not_true]
/-! the laps of are_chances -/
def elt1 : IE := .and (.isi (.var 4) .tuple) (.cmp .eq (.bi .len (.var 4)) (.cst (.int 2)))
def elt2 : IE := .idx (.var 4) (.cst (.int 0))
theorem lap1 (ws : List (List Val)) (hc : ws.length ≤ cap) (x1 x2 x3 : Option Val) (q : Ev.Ctx) :
    ∃ J, lcStart q [4] elt1 (.name 4) .none [some (.tup (ws.map Val.tup)), x1, x2, x3, none] (.ok (.tup (ws.map Val.tup)) S) = .ok (.obj (S ++ J).length) (S ++ J ++ [.lst (ws.map fun w => .bl ((w.length : Int) == 2))]) :=
  lc_map (q := q) (S := S) ws Val.tup (fun w => .bl ((w.length : Int) == 2)) rfl (List.length_map ..) hc (fun J n => rfl) (fun w _ J => by
    refine ⟨[some (.tup (ws.map Val.tup)), x1, x2, x3, some (.tup w)], J, rfl, ?_⟩
    unfold elt1
    simp only [b_cons, b_nil, s_asg, s_par, s_sub, s_ret, s_expr, s_ife, s_whl, s_for, s_raise, s_pass, e_cst, e_glb0, e_glb1, e_glb2, e_glb3, e_var, e_tup, e_lst, e_dnew, e_bin, e_neg, e_not, e_and, e_or, e_cmp, e_chn, e_ife, e_idx, e_slc, e_rev, e_call, e_bi, e_isi, e_app, e_get2, e_lam, e_lc, l_nil, l_cons, o_none, o_some, i_seq, i_range, i_zip, bind_ok, bind_err, toF_ok, toF_err, fbind_next, fbind_ret, fbind_err, asB_ok, asI_ok, asB_err, truth_ok, truth_err, set_name, set_tup, set_nil, set_cons, fend_next, fend_ret, fend_err, List.length_cons, List.length_nil, List.length_set, List.map_cons, List.map_nil, List.cons_append, List.nil_append, List.getElem?_cons_zero, List.getElem?_cons_succ, List.set_cons_zero, List.set_cons_succ, if_true, if_false, Bool.false_eq_true, Bool.not_true, Bool.not_false, reduceIte, and_self, Nat.reduceAdd, Nat.reduceLT, Nat.reduceLeDiff, Nat.reduceSub, Nat.reduceEqDiff, List.replicate_succ, List.replicate_zero, isi_tt, len_t, eq_ii])
theorem lap2 (ps : List (Val × Val)) (t : Val) (hc : ps.length ≤ cap) (x1 x2 x3 : Option Val) (q : Ev.Ctx) :
    ∃ J, lcStart q [4] elt2 (.name 4) .none [some t, x1, x2, x3, none] (.ok (.tup (ps.map pr2)) S) = .ok (.obj (S ++ J).length) (S ++ J ++ [.lst (ps.map (·.1))]) :=
  lc_map (q := q) (S := S) ps pr2 (·.1) rfl (List.length_map ..) hc (fun J n => rfl) (fun p _ J => by
    refine ⟨[some t, x1, x2, x3, some (pr2 p)], J, rfl, ?_⟩
    unfold elt2 pr2
    simp only [b_cons, b_nil, s_asg, s_par, s_sub, s_ret, s_expr, s_ife, s_whl, s_for, s_raise, s_pass, e_cst, e_glb0, e_glb1, e_glb2, e_glb3, e_var, e_tup, e_lst, e_dnew, e_bin, e_neg, e_not, e_and, e_or, e_cmp, e_chn, e_ife, e_idx, e_slc, e_rev, e_call, e_bi, e_isi, e_app, e_get2, e_lam, e_lc, l_nil, l_cons, o_none, o_some, i_seq, i_range, i_zip, bind_ok, bind_err, toF_ok, toF_err, fbind_next, fbind_ret, fbind_err, asB_ok, asI_ok, asB_err, truth_ok, truth_err, set_name, set_tup, set_nil, set_cons, fend_next, fend_ret, fend_err, List.length_cons, List.length_nil, List.length_set, List.map_cons, List.map_nil, List.cons_append, List.nil_append, List.getElem?_cons_zero, List.getElem?_cons_succ, List.set_cons_zero, List.set_cons_succ, if_true, if_false, Bool.false_eq_true, Bool.not_true, Bool.not_false, reduceIte, and_self, Nat.reduceAdd, Nat.reduceLT, Nat.reduceLeDiff, Nat.reduceSub, Nat.reduceEqDiff, List.replicate_succ, List.replicate_zero, ix0])
theorem lap3 (ps : List (Val × Val)) (t : Val) (bc : Val × Val → Bool) (hb : ∀ p ∈ ps, ChAt k g p.2 (bc p)) (hc : ps.length ≤ cap) (x1 x2 x3 : Option Val) :
    ∃ J, lcStart ⟨CC (k + 7) g, CC (k + 5) false, g⟩ [4] elt3 (.name 4) .none [some t, x1, x2, x3, none] (.ok (.tup (ps.map pr2)) S) = .ok (.obj (S ++ J).length) (S ++ J ++ [.lst (ps.map fun p => .bl (bc p))]) :=
  lc_map (q := ⟨CC (k + 7) g, CC (k + 5) false, g⟩) (S := S) ps pr2 (fun p => .bl (bc p)) rfl (List.length_map ..) hc (fun J n => rfl) (fun p hp J => ⟨[some t, x1, x2, x3, some (pr2 p)], J, rfl, hb p hp (S ++ J) _ _ _ _ _⟩)
/-- the body of are_chances, with its tests named -/
def chBody : IB := (.cons (.ife (.or (.not (.isi (.var 0) .tuple)) (.not (.bi .all (.lc [4] elt1 (.name 4) (.seq (.var 0)) .none)))) (.cons (.ret (.cst (.bl false))) .nil) .nil) (.cons (.ife (.not (.call 10 (.cons (.bi .tuple (.lc [4] elt2 (.name 4) (.seq (.var 0)) .none)) .nil))) (.cons (.ret (.cst (.bl false))) .nil) .nil) (.cons (.ife (.not (.bi .all (.lc [4] elt3 (.name 4) (.seq (.var 0)) .none))) (.cons (.ret (.cst (.bl false))) .nil) .nil) (.cons (.asg (.name 1) (.glb 0)) (.cons (.for (.tup (.cons (.name 2) (.cons (.name 3) .nil))) (.seq (.var 0)) (.cons (.asg (.name 1) (.call 6 (.cons (.var 1) (.cons (.var 3) .nil)))) .nil)) (.cons (.ret (.cmp .eq (.var 1) (.glb 1))) .nil))))))
theorem chBody_is : b_are_chances = chBody := rfl
theorem are_chances_no1 (ws : List (List Val)) (hc : ws.length ≤ cap) (h : (ws.all fun w => (w.length : Int) == 2) = false) : Ans (k + 8) g 11 [.tup (ws.map Val.tup)] (.bl false) S := .of fun S => by
  obtain ⟨J, hJ⟩ := lap1 (S := S) ws hc none none none ⟨CC (k + 7) g, CC (k + 5) false, g⟩
  refine ⟨J ++ [.lst (ws.map fun w => .bl ((w.length : Int) == 2))], ?_⟩
  rw [C_at (k := k + 5) (np := 1) (nn := 5) (body := chBody) rfl rfl]
  simp only [b_cons, b_nil, s_asg, s_par, s_sub, s_ret, s_expr, s_ife, s_whl, s_for, s_raise, s_pass, e_cst, e_glb0, e_glb1, e_glb2, e_glb3, e_var, e_tup, e_lst, e_dnew, e_bin, e_neg, e_not, e_and, e_or, e_cmp, e_chn, e_ife, e_idx, e_slc, e_rev, e_call, e_bi, e_isi, e_app, e_get2, e_lam, e_lc, l_nil, l_cons, o_none, o_some, i_seq, i_range, i_zip, bind_ok, bind_err, toF_ok, toF_err, fbind_next, fbind_ret, fbind_err, asB_ok, asI_ok, asB_err, truth_ok, truth_err, set_name, set_tup, set_nil, set_cons, fend_next, fend_ret, fend_err, List.length_cons, List.length_nil, List.length_set, List.map_cons, List.map_nil, List.cons_append, List.nil_append, List.getElem?_cons_zero, List.getElem?_cons_succ, List.set_cons_zero, List.set_cons_succ, if_true, if_false, Bool.false_eq_true, Bool.not_true, Bool.not_false, reduceIte, and_self, Nat.reduceAdd, Nat.reduceLT, Nat.reduceLeDiff, Nat.reduceSub, Nat.reduceEqDiff, List.replicate_succ, List.replicate_zero, chBody, isi_tt, seq_t, hJ, all_ok (fun w : List Val => (w.length : Int) == 2) ws app_last, h]
  rw [List.append_assoc]
theorem pr2_tup (ps : List (Val × Val)) : ps.map pr2 = (ps.map fun p => [p.1, p.2]).map Val.tup := by
  rw [List.map_map]
  rfl
theorem len_two (ps : List (Val × Val)) : ((ps.map fun p => [p.1, p.2]).all fun w => (w.length : Int) == 2) = true := by
  rw [List.all_map, List.all_eq_true]
  intro p _
  rfl
theorem are_chances_no2 (ps : List (Val × Val)) (hc : ps.length ≤ cap) (h : ∀ S, Ans (k + 7) g 10 [.tup (ps.map (·.1))] (.bl false) S) : Ans (k + 8) g 11 [.tup (ps.map pr2)] (.bl false) S := .of fun S => by
  obtain ⟨J, hJ⟩ := lap1 (S := S) (ps.map fun p => [p.1, p.2]) (by rw [List.length_map]; exact hc) none none none ⟨CC (k + 7) g, CC (k + 5) false, g⟩
  rw [← pr2_tup] at hJ
  generalize hS1 : S ++ J ++ [.lst ((ps.map fun p => [p.1, p.2]).map fun w => .bl ((w.length : Int) == 2))] = S1 at hJ
  have ha : biop g .all (.obj (S ++ J).length) S1 = .ok (.bl true) S1 := by
    rw [← hS1, all_ok (fun w : List Val => (w.length : Int) == 2) (ps.map fun p => [p.1, p.2]) app_last, len_two]
  obtain ⟨J2, hJ2⟩ := lap2 (S := S1) ps (.tup (ps.map pr2)) hc none none none ⟨CC (k + 7) g, CC (k + 5) false, g⟩
  obtain ⟨J3, hJ3⟩ := (h (S1 ++ J2 ++ [.lst (ps.map (·.1))])).now
  refine ⟨J ++ [.lst ((ps.map fun p => [p.1, p.2]).map fun w => .bl ((w.length : Int) == 2))] ++ J2 ++ [.lst (ps.map (·.1))] ++ J3, ?_⟩
  rw [C_at (k := k + 5) (np := 1) (nn := 5) (body := chBody) rfl rfl]
  simp only [b_cons, b_nil, s_asg, s_par, s_sub, s_ret, s_expr, s_ife, s_whl, s_for, s_raise, s_pass, e_cst, e_glb0, e_glb1, e_glb2, e_glb3, e_var, e_tup, e_lst, e_dnew, e_bin, e_neg, e_not, e_and, e_or, e_cmp, e_chn, e_ife, e_idx, e_slc, e_rev, e_call, e_bi, e_isi, e_app, e_get2, e_lam, e_lc, l_nil, l_cons, o_none, o_some, i_seq, i_range, i_zip, bind_ok, bind_err, toF_ok, toF_err, fbind_next, fbind_ret, fbind_err, asB_ok, asI_ok, asB_err, truth_ok, truth_err, set_name, set_tup, set_nil, set_cons, fend_next, fend_ret, fend_err, List.length_cons, List.length_nil, List.length_set, List.map_cons, List.map_nil, List.cons_append, List.nil_append, List.getElem?_cons_zero, List.getElem?_cons_succ, List.set_cons_zero, List.set_cons_succ, if_true, if_false, Bool.false_eq_true, Bool.not_true, Bool.not_false, reduceIte, and_self, Nat.reduceAdd, Nat.reduceLT, Nat.reduceLeDiff, Nat.reduceSub, Nat.reduceEqDiff, List.replicate_succ, List.replicate_zero, chBody, isi_tt, seq_t, hJ, ha, hJ2, tuple_ok app_last, hJ3]
  rw [← hS1]
  simp only [List.append_assoc]
theorem are_chances_no3 (ps : List (Val × Val)) (hc : ps.length ≤ cap) (h : ∀ S, Ans (k + 7) g 10 [.tup (ps.map (·.1))] (.bl true) S) (bc : Val × Val → Bool) (hb : ∀ p ∈ ps, ChAt k g p.2 (bc p)) (hn : ps.all bc = false) : Ans (k + 8) g 11 [.tup (ps.map pr2)] (.bl false) S := .of fun S => by
  obtain ⟨J, hJ⟩ := lap1 (S := S) (ps.map fun p => [p.1, p.2]) (by rw [List.length_map]; exact hc) none none none ⟨CC (k + 7) g, CC (k + 5) false, g⟩
  rw [← pr2_tup] at hJ
  generalize hS1 : S ++ J ++ [.lst ((ps.map fun p => [p.1, p.2]).map fun w => .bl ((w.length : Int) == 2))] = S1 at hJ
  have ha : biop g .all (.obj (S ++ J).length) S1 = .ok (.bl true) S1 := by
    rw [← hS1, all_ok (fun w : List Val => (w.length : Int) == 2) (ps.map fun p => [p.1, p.2]) app_last, len_two]
  obtain ⟨J2, hJ2⟩ := lap2 (S := S1) ps (.tup (ps.map pr2)) hc none none none ⟨CC (k + 7) g, CC (k + 5) false, g⟩
  obtain ⟨J3, hJ3⟩ := (h (S1 ++ J2 ++ [.lst (ps.map (·.1))])).now
  obtain ⟨J4, hJ4⟩ := lap3 (S := S1 ++ J2 ++ [.lst (ps.map (·.1))] ++ J3) ps (.tup (ps.map pr2)) bc hb hc none none none
  refine ⟨J ++ [.lst ((ps.map fun p => [p.1, p.2]).map fun w => .bl ((w.length : Int) == 2))] ++ J2 ++ [.lst (ps.map (·.1))] ++ J3 ++ J4 ++ [.lst (ps.map fun p => .bl (bc p))], ?_⟩
  rw [C_at (k := k + 5) (np := 1) (nn := 5) (body := chBody) rfl rfl]
  simp only [b_cons, b_nil, s_asg, s_par, s_sub, s_ret, s_expr, s_ife, s_whl, s_for, s_raise, s_pass, e_cst, e_glb0, e_glb1, e_glb2, e_glb3, e_var, e_tup, e_lst, e_dnew, e_bin, e_neg, e_not, e_and, e_or, e_cmp, e_chn, e_ife, e_idx, e_slc, e_rev, e_call, e_bi, e_isi, e_app, e_get2, e_lam, e_lc, l_nil, l_cons, o_none, o_some, i_seq, i_range, i_zip, bind_ok, bind_err, toF_ok, toF_err, fbind_next, fbind_ret, fbind_err, asB_ok, asI_ok, asB_err, truth_ok, truth_err, set_name, set_tup, set_nil, set_cons, fend_next, fend_ret, fend_err, List.length_cons, List.length_nil, List.length_set, List.map_cons, List.map_nil, List.cons_append, List.nil_append, List.getElem?_cons_zero, List.getElem?_cons_succ, List.set_cons_zero, List.set_cons_succ, if_true, if_false, Bool.false_eq_true, Bool.not_true, Bool.not_false, reduceIte, and_self, Nat.reduceAdd, Nat.reduceLT, Nat.reduceLeDiff, Nat.reduceSub, Nat.reduceEqDiff, List.replicate_succ, List.replicate_zero, chBody, isi_tt, seq_t, hJ, ha, hJ2, tuple_ok app_last, hJ3, hJ4, all_ok bc ps app_last, hn]
  rw [← hS1]
  simp only [List.append_assoc]
/-- shares of weights -/
def sh (s : Int) (p : Nat × Int) : Nat × Frac := (p.1, rd p.2 s)
def tot (l : List (Nat × Int)) : Int := (l.map (·.2)).sum
theorem tot_cons (p : Nat × Int) (l : List (Nat × Int)) : tot (p :: l) = p.2 + tot l := rfl
theorem tot_nonneg : ∀ {l : List (Nat × Int)}, (∀ p ∈ l, 0 < p.2) → 0 ≤ tot l
  | [], _ => by decide
  | p :: l, h => by
    have h1 := tot_nonneg fun p' h' => h p' (List.mem_cons_of_mem _ h')
    have h2 := h p (List.mem_cons_self ..)
    rw [tot_cons]
    omega
theorem le_tot : ∀ {l : List (Nat × Int)}, (∀ p ∈ l, 0 < p.2) → ∀ p ∈ l, p.2 ≤ tot l
  | [], _, _, h => nomatch h
  | p :: l, h, p', h' => by
    have hl : ∀ p ∈ l, 0 < p.2 := fun p' h' => h p' (List.mem_cons_of_mem _ h')
    have h1 := tot_nonneg hl
    have h2 := h p (List.mem_cons_self ..)
    rw [tot_cons]
    rcases List.mem_cons.mp h' with rfl | h''
    · omega
    · have := le_tot hl p' h''
      omega
theorem sum_loop (t : Val) (s : Int) (hs : 0 < s) (hs1 : s ≤ 10 ^ 31) (l : List (Nat × Int)) (hl : ∀ p ∈ l, 0 < p.2) (ht : tot l ≤ 10 ^ 31) :
    ∃ J x2 x3, FLp ⟨CC (k + 7) g, CC (k + 5) false, g⟩ (.tup (.cons (.name 2) (.cons (.name 3) .nil))) (.cons (.asg (.name 1) (.call 6 (.cons (.var 1) (.cons (.var 3) .nil)))) .nil) (.tup ((l.map (sh s)).map prV)) ((Src.tup ((l.map (sh s)).map prV)).len S + 1) 0 [some t, some (fV (rd 0 s)), none, none, none] S = .next [some t, some (fV (rd (tot l) s)), x2, x3, none] (S ++ J) := by
  have hr := for_run (q := ⟨CC (k + 7) g, CC (k + 5) false, g⟩) (t := .tup (.cons (.name 2) (.cons (.name 3) .nil))) (b := .cons (.asg (.name 1) (.call 6 (.cons (.var 1) (.cons (.var 3) .nil)))) .nil) (src := .tup ((l.map (sh s)).map prV)) (S := S) (e := [some t, some (fV (rd 0 s)), none, none, none]) ((l.map (sh s)).map prV)
    (fun rest e S' => ∃ J x2 x3 A r, S' = S ++ J ∧ rest = (r.map (sh s)).map prV ∧ e = [some t, some (fV (rd A s)), x2, x3, none] ∧ 0 ≤ A ∧ A + tot r = tot l ∧ ∀ p ∈ r, p ∈ l) (fun _ _ => False) rfl (fun _ _ _ _ _ => rfl)
    (fun v rest e S' ⟨J, x2, x3, A, r, a, b, c, hA, d, m⟩ => by
      cases r with
      | nil => exact absurd b (by simp)
      | cons p r =>
        rw [List.map_cons, List.map_cons] at b
        injection b with b1 b2
        have hp := hl p (m p (List.mem_cons_self ..))
        have hp2 := le_tot hl p (m p (List.mem_cons_self ..))
        have hr := tot_nonneg fun p' h' => hl p' (m p' (List.mem_cons_of_mem _ h'))
        rw [tot_cons] at d
        subst a
        subst c
        refine ⟨[some t, some (fV (rd A s)), some (oV p.1), some (fV (rd p.2 s)), none], by rw [b1]; rfl, .inl ⟨[some t, some (fV (rd (A + p.2) s)), some (oV p.1), some (fV (rd p.2 s)), none], S ++ J, ?_, J, _, _, A + p.2, r, rfl, b2, rfl, by omega, by omega, fun y hy => m y (List.mem_cons_of_mem _ hy)⟩⟩
        have e62 : (10 : Int) ^ 62 = 10 ^ 31 * 10 ^ 31 := by decide
        have z31 : (10 : Nat) ^ 31 ≤ 10 ^ 62 := by decide
        have w1 : A.natAbs ≤ 10 ^ 62 := Nat.le_trans (by omega) z31
        have w2 : s.natAbs ≤ 10 ^ 62 := Nat.le_trans (by omega) z31
        have w3 : p.2.natAbs ≤ 10 ^ 62 := Nat.le_trans (by omega) z31
        have hp := raw_plus_ok (k := k) (g := g) (S := S ++ J) (rd A s) (rd p.2 s) (rd_ShF hs w1 w2) (rd_ShF hs w3 w2)
        rw [show rd ((rd A s).1 * (rd p.2 s).2 + (rd p.2 s).1 * (rd A s).2) ((rd A s).2 * (rd p.2 s).2) = rd (A + p.2) s from plus_rd A p.2 s hs] at hp
        simp only [b_cons, b_nil, s_asg, s_par, s_sub, s_ret, s_expr, s_ife, s_whl, s_for, s_raise, s_pass, e_cst, e_glb0, e_glb1, e_glb2, e_glb3, e_var, e_tup, e_lst, e_dnew, e_bin, e_neg, e_not, e_and, e_or, e_cmp, e_chn, e_ife, e_idx, e_slc, e_rev, e_call, e_bi, e_isi, e_app, e_get2, e_lam, e_lc, l_nil, l_cons, o_none, o_some, i_seq, i_range, i_zip, bind_ok, bind_err, toF_ok, toF_err, fbind_next, fbind_ret, fbind_err, asB_ok, asI_ok, asB_err, truth_ok, truth_err, set_name, set_tup, set_nil, set_cons, fend_next, fend_ret, fend_err, List.length_cons, List.length_nil, List.length_set, List.map_cons, List.map_nil, List.cons_append, List.nil_append, List.getElem?_cons_zero, List.getElem?_cons_succ, List.set_cons_zero, List.set_cons_succ, if_true, if_false, Bool.false_eq_true, Bool.not_true, Bool.not_false, reduceIte, and_self, Nat.reduceAdd, Nat.reduceLT, Nat.reduceLeDiff, Nat.reduceSub, Nat.reduceEqDiff, List.replicate_succ, List.replicate_zero, hp])
    ⟨[], none, none, 0, l, by simp, rfl, rfl, by decide, by simp, fun _ h => h⟩
  rcases hr with ⟨e', S', h1, J, x2, x3, A, r, a, b, c, hA, d, m⟩ | ⟨_, _, _, h⟩
  · have hr : r = [] := by
      cases r with
      | nil => rfl
      | cons x r => exact absurd b (by simp)
    subst hr
    have hA2 : A = tot l := by
      have : tot [] = 0 := rfl
      omega
    subst hA2
    exact ⟨J, x2, x3, by rw [h1, a, c]⟩
  · exact h.elim
theorem are_chances_gen (s : Int) (hs : 0 < s) (hs1 : s ≤ 10 ^ 31) (l : List (Nat × Int)) (hl : ∀ p ∈ l, 0 < p.2 ∧ p.2 ≤ s) (ht : tot l ≤ 10 ^ 31) (ho : Outs (l.map (·.1))) : Ans (k + 8) g 11 [chV (l.map (sh s))] (.bl (decide (tot l = s))) S := .of fun S => by
  have hcap : (l.map (sh s)).length ≤ cap := by
    have := ho.few
    rw [List.length_map] at this ⊢
    unfold cap
    omega
  have hps : (l.map (sh s)).map prV = ((l.map (sh s)).map fun p => (oV p.1, fV p.2)).map pr2 := by
    rw [List.map_map (l := l.map (sh s))]
    rfl
  generalize hpd : ((l.map (sh s)).map fun p => (oV p.1, fV p.2)) = ps at hps
  have hc : ps.length ≤ cap := by rw [← hpd, List.length_map]; exact hcap
  have hfst : ps.map (·.1) = (l.map (·.1)).map oV := by
    rw [← hpd, List.map_map, List.map_map, List.map_map]
    rfl
  have z : (10 : Nat) ^ 31 < WW := of_decide_eq_true rfl
  have hb : ∀ p ∈ ps, ChAt k g p.2 ((fun _ => true) p) := by
    intro p hp
    rw [← hpd] at hp
    obtain ⟨p1, h1, rfl⟩ := List.mem_map.mp hp
    obtain ⟨p2, h2, rfl⟩ := List.mem_map.mp h1
    obtain ⟨h3, h4⟩ := hl p2 h2
    have c := rd_cross p2.2 s hs
    have d := rd_pos p2.2 s hs
    refine chAt_ok (rd_Fr p2.2 s hs (by omega)) (rd_num_pos h3 hs) ?_
    show (rd p2.2 s).1 ≤ (rd p2.2 s).2
    have : (rd p2.2 s).1 * s ≤ (rd p2.2 s).2 * s := by
      rw [c, Int.mul_comm]
      exact Int.mul_le_mul_of_nonneg_left h4 (Int.le_of_lt d)
    exact Int.le_of_mul_le_mul_right this hs
  unfold chV
  rw [hps]
  obtain ⟨J, hJ⟩ := lap1 (S := S) (ps.map fun p => [p.1, p.2]) (by rw [List.length_map]; exact hc) none none none ⟨CC (k + 7) g, CC (k + 5) false, g⟩
  rw [← pr2_tup] at hJ
  generalize hS1 : S ++ J ++ [.lst ((ps.map fun p => [p.1, p.2]).map fun w => .bl ((w.length : Int) == 2))] = S1 at hJ
  have ha : biop g .all (.obj (S ++ J).length) S1 = .ok (.bl true) S1 := by
    rw [← hS1, all_ok (fun w : List Val => (w.length : Int) == 2) (ps.map fun p => [p.1, p.2]) app_last, len_two]
  obtain ⟨J2, hJ2⟩ := lap2 (S := S1) ps (.tup (ps.map pr2)) hc none none none ⟨CC (k + 7) g, CC (k + 5) false, g⟩
  have hou := are_outs_ok (k := k + 2) (g := g) (S := S1 ++ J2 ++ [.lst (ps.map (·.1))]) (l.map (·.1)) ho.lt ho.few
  rw [adj_up ho.up, ← hfst] at hou
  obtain ⟨J3, hJ3⟩ := hou.now
  obtain ⟨J4, hJ4⟩ := lap3 (S := S1 ++ J2 ++ [.lst (ps.map (·.1))] ++ J3) ps (.tup (ps.map pr2)) (fun _ => true) hb hc none none none
  obtain ⟨J5, x2, x3, hJ5⟩ := sum_loop (k := k) (g := g) (S := S1 ++ J2 ++ [.lst (ps.map (·.1))] ++ J3 ++ J4 ++ [.lst (ps.map fun _ => .bl true)]) (.tup (ps.map pr2)) s hs hs1 l (fun p hp => (hl p hp).1) ht
  rw [hps, rd_nought hs] at hJ5
  have e1 : ((rd (tot l) s).1 == 1 && (rd (tot l) s).2 == 1) = decide (tot l = s) := by
    rw [Bool.eq_iff_iff]
    simp only [Bool.and_eq_true, beq_iff_eq, decide_eq_true_eq]
    rw [← rd_is_one hs]
    exact ⟨fun h => Prod.ext h.1 h.2, fun h => by rw [h]; exact ⟨rfl, rfl⟩⟩
  refine ⟨J ++ [.lst ((ps.map fun p => [p.1, p.2]).map fun w => .bl ((w.length : Int) == 2))] ++ J2 ++ [.lst (ps.map (·.1))] ++ J3 ++ J4 ++ [.lst (ps.map fun _ => .bl true)] ++ J5, ?_⟩
  rw [C_at (k := k + 5) (np := 1) (nn := 5) (body := chBody) rfl rfl]
  have g0 : ∀ (q : Ev.Ctx) (e : Ev.Env) (S : Store), evE G LT (.glb 0) q e S = .ok (fV (0, 1)) S := fun _ _ _ => rfl
  have g1 : ∀ (q : Ev.Ctx) (e : Ev.Env) (S : Store), evE G LT (.glb 1) q e S = .ok (fV (1, 1)) S := fun _ _ _ => rfl
  have htg : tgOk (.tup (ps.map pr2)) (.tup (.cons (.name 2) (.cons (.name 3) .nil))) = true := rfl
  simp only [b_cons, b_nil, s_asg, s_par, s_sub, s_ret, s_expr, s_ife, s_whl, s_for, s_raise, s_pass, e_cst, e_glb2, e_glb3, e_var, e_tup, e_lst, e_dnew, e_bin, e_neg, e_not, e_and, e_or, e_cmp, e_chn, e_ife, e_idx, e_slc, e_rev, e_call, e_bi, e_isi, e_app, e_get2, e_lam, e_lc, l_nil, l_cons, o_none, o_some, i_seq, i_range, i_zip, bind_ok, bind_err, toF_ok, toF_err, fbind_next, fbind_ret, fbind_err, asB_ok, asI_ok, asB_err, truth_ok, truth_err, set_name, set_tup, set_nil, set_cons, fend_next, fend_ret, fend_err, List.length_cons, List.length_nil, List.length_set, List.map_cons, List.map_nil, List.cons_append, List.nil_append, List.getElem?_cons_zero, List.getElem?_cons_succ, List.set_cons_zero, List.set_cons_succ, if_true, if_false, Bool.false_eq_true, Bool.not_true, Bool.not_false, reduceIte, and_self, Nat.reduceAdd, Nat.reduceLT, Nat.reduceLeDiff, Nat.reduceSub, Nat.reduceEqDiff, List.replicate_succ, List.replicate_zero, chBody, g0, g1, isi_tt, seq_t, hJ, ha, hJ2, tuple_ok app_last, hJ3, hJ4, all_ok (fun _ : Val × Val => true) ps app_last, all_true, htg, Bool.true_eq_false, hJ5, eq_f, e1]
  rw [← hS1]
  simp only [List.append_assoc]
end
end Law
end

section
set_option Elab.async false
set_option linter.all false
set_option autoImplicit false
set_option maxRecDepth 100000
namespace Law
open PySem Ev
section
variable {k : Nat} {g : Bool} {S : Store} {q : Ev.Ctx} {e : Ev.Env}
/-! what odds tells -/
inductive OR where
  | odds (x : Frac) (i : Nat) | endl (i : Nat)
def orV : OR → Val
  | .odds x i => .tup [.str "odds", fV x, oV i]
  | .endl i => .tup [.str "endless", oV i]
def stepO (best : Option (Frac × Nat)) (x : Frac) (i : Nat) : Frac × Nat := match best with
  | none => (x, i)
  | some (b, j) => if b.1 * x.2 < x.1 * b.2 then (x, i) else (b, j)
def goO (m : List (Nat × Frac)) : List (Nat × Frac) → Option (Frac × Nat) → OR
  | [], none => .endl 0
  | [], some (b, j) => .odds b j
  | p :: r, best => match get m p.1 with
    | none => .endl p.1
    | some d => goO m r (some (stepO best (ovF p.2 d) p.1))
def oddsP (l m : List (Nat × Frac)) : OR := goO m l none
/-- right chances, short figures -/
structure Ch (l : List (Nat × Frac)) : Prop where
  outs : Outs (l.map (·.1))
  sm : ∀ p ∈ l, Sm p.2
  some : l ≠ []
theorem Ch.lt {l : List (Nat × Frac)} (h : Ch l) : ∀ p ∈ l, p.1 < 65 := fun p hp => h.outs.lt p.1 (List.mem_map.mpr ⟨p, hp, rfl⟩)
theorem get_mem {α : Type} {l : List (Nat × α)} {i : Nat} {x : α} (h : get l i = some x) : (i, x) ∈ l := by
  unfold get at h
  rw [Option.map_eq_some_iff] at h
  obtain ⟨p, h1, h2⟩ := h
  have h3 := List.mem_of_find?_eq_some h1
  have h4 := List.find?_some h1
  have h5 : p.1 = i := by simpa using h4
  have : p = (i, x) := Prod.ext h5 h2
  rwa [this] at h3
def bestV : Option (Frac × Nat) → Val
  | none => .non
  | some (b, j) => .tup [fV b, oV j]
def bestL : Option (Frac × Nat) → Val
  | none => .non
  | some (b, j) => .tup [.str "odds", fV b, oV j]
def BestOk : Option (Frac × Nat) → Prop
  | none => True
  | some (b, _) => ShF b
theorem is_nn : cmpop .is .non .non S = .ok (.bl true) S := rfl
theorem is_tn (vs : List Val) : cmpop .is (.tup vs) .non S = .ok (.bl false) S := rfl
theorem stepO_ok {best : Option (Frac × Nat)} {x : Frac} {i : Nat} (h : BestOk best) (hx : ShF x) : BestOk (some (stepO best x i)) := by
  cases best with
  | none => exact hx
  | some b =>
    obtain ⟨b, j⟩ := b
    show ShF (stepO (some (b, j)) x i).1
    unfold stepO
    simp only []
    split
    · exact hx
    · exact h
theorem add_12 (a b c : Val) : binop .add (.tup [a]) (.tup [b, c]) S = .ok (.tup [a, b, c]) S := rfl
theorem add_31 (a b c d : Val) : binop .add (.tup [a, b, c]) (.tup [d]) S = .ok (.tup [a, b, c, d]) S := rfl
theorem add_21 (a b d : Val) : binop .add (.tup [a, b]) (.tup [d]) S = .ok (.tup [a, b, d]) S := rfl
theorem par_ok {i j : Nat} {x y : IE} : evS G LT WW q (.par i j x y) e S = (evE G LT x q e S).toF e fun x S => (evE G LT y q e S).toF e fun y S => if i < e.length ∧ j < e.length then .next ((e.set i (some x)).set j (some y)) S else .stuck := rfl
theorem raw_odds_ok (l m : List (Nat × Frac)) (hl : Ch l) (hm : Ch m) : Ans (k + 8) g 13 [chV l, chV m] (orV (oddsP l m)) S := .of fun S => by
  have hd := dict_ok (S := S) m hm.outs g
  generalize hS1 : S ++ [.dic (dicOf fV m)] = S1 at hd
  have hS1d : S1[S.length]? = some (.dic (dicOf fV m)) := by rw [← hS1]; exact app_last
  have hr := for_run (q := ⟨CC (k + 7) g, CC (k + 5) false, g⟩) (t := .tup (.cons (.name 4) (.cons (.name 5) .nil))) (b := (match b_raw_odds with | .cons _ (.cons (.for _ _ b) _) => b | _ => .nil)) (src := .tup (l.map prV)) (S := S1) (e := [some (chV l), some (chV m), some (.obj S.length), some .non, none, none, none]) (l.map prV)
    (fun rest e S' => ∃ J r best x4 x5 x6, S' = S1 ++ J ∧ rest = r.map prV ∧ e = [some (chV l), some (chV m), some (.obj S.length), some (bestV best), x4, x5, x6] ∧ (∀ p ∈ r, p ∈ l) ∧ goO m r best = oddsP l m ∧ BestOk best ∧ (best = none → r ≠ []))
    (fun v S' => ∃ J, S' = S1 ++ J ∧ v = orV (oddsP l m)) rfl (fun _ _ _ _ _ => rfl)
    (fun v rest e S' ⟨J, r, best, x4, x5, x6, a, b, c, hr, d, hb, hne⟩ => by
      cases r with
      | nil => exact absurd b (by simp)
      | cons p r =>
        rw [List.map_cons] at b
        injection b with b1 b2
        have hp := hr p (List.mem_cons_self ..)
        have hi := hl.lt p hp
        have hdic : S'[S.length]? = some (.dic (dicOf fV m)) := by rw [a]; exact app_get hS1d
        have hni := notin_ok (S := S') hdic hi hm.lt
        refine ⟨[some (chV l), some (chV m), some (.obj S.length), some (bestV best), some (oV p.1), some (fV p.2), x6], by rw [b1, c]; rfl, ?_⟩
        unfold goO at d
        cases hg : get m p.1 with
        | none =>
          rw [hg] at hni d
          refine .inr ⟨orV (oddsP l m), S', ?_, J, a, rfl⟩
          rw [← d]
          simp only [b_cons, b_nil, s_asg, s_par, s_sub, s_ret, s_expr, s_ife, s_whl, s_for, s_raise, s_pass, e_cst, e_glb0, e_glb1, e_glb2, e_glb3, e_var, e_tup, e_lst, e_dnew, e_bin, e_neg, e_not, e_and, e_or, e_cmp, e_chn, e_ife, e_idx, e_slc, e_rev, e_call, e_bi, e_isi, e_app, e_get2, e_lam, e_lc, l_nil, l_cons, o_none, o_some, i_seq, i_range, i_zip, bind_ok, bind_err, toF_ok, toF_err, fbind_next, fbind_ret, fbind_err, asB_ok, asI_ok, asB_err, truth_ok, truth_err, set_name, set_tup, set_nil, set_cons, fend_next, fend_ret, fend_err, List.length_cons, List.length_nil, List.length_set, List.map_cons, List.map_nil, List.cons_append, List.nil_append, List.getElem?_cons_zero, List.getElem?_cons_succ, List.set_cons_zero, List.set_cons_succ, if_true, if_false, Bool.false_eq_true, Bool.not_true, Bool.not_false, reduceIte, and_self, Nat.reduceAdd, Nat.reduceLT, Nat.reduceLeDiff, Nat.reduceSub, Nat.reduceEqDiff, List.replicate_succ, List.replicate_zero, cap, b_raw_odds, hni, Option.isSome_none, orV]
        | some x =>
          rw [hg] at hni d
          have hx := hm.sm _ (get_mem hg)
          have hat := at_dic (S := S') hdic hi hm.lt hg
          have hp2 := hl.sm p hp
          have hby : CC (k + 7) g 7 [fV p.2, fV x] S' = .ok (fV (ovF p.2 x)) S' := raw_by_ok (k := k) p.2 x hp2.sh hx.sh hx.1
          have hov := ov_ShF hp2 hx
          refine .inl ⟨[some (chV l), some (chV m), some (.obj S.length), some (bestV (some (stepO best (ovF p.2 x) p.1))), some (oV p.1), some (fV p.2), some (fV (ovF p.2 x))], S', ?_, J, r, some (stepO best (ovF p.2 x) p.1), _, _, _, a, b2, rfl, fun y hy => hr y (List.mem_cons_of_mem _ hy), d, stepO_ok hb hov, fun h => nomatch h⟩
          cases best with
          | none =>
            simp only [b_cons, b_nil, s_asg, s_par, s_sub, s_ret, s_expr, s_ife, s_whl, s_for, s_raise, s_pass, e_cst, e_glb0, e_glb1, e_glb2, e_glb3, e_var, e_tup, e_lst, e_dnew, e_bin, e_neg, e_not, e_and, e_or, e_cmp, e_chn, e_ife, e_idx, e_slc, e_rev, e_call, e_bi, e_isi, e_app, e_get2, e_lam, e_lc, l_nil, l_cons, o_none, o_some, i_seq, i_range, i_zip, bind_ok, bind_err, toF_ok, toF_err, fbind_next, fbind_ret, fbind_err, asB_ok, asI_ok, asB_err, truth_ok, truth_err, set_name, set_tup, set_nil, set_cons, fend_next, fend_ret, fend_err, List.length_cons, List.length_nil, List.length_set, List.map_cons, List.map_nil, List.cons_append, List.nil_append, List.getElem?_cons_zero, List.getElem?_cons_succ, List.set_cons_zero, List.set_cons_succ, if_true, if_false, Bool.false_eq_true, Bool.not_true, Bool.not_false, reduceIte, and_self, Nat.reduceAdd, Nat.reduceLT, Nat.reduceLeDiff, Nat.reduceSub, Nat.reduceEqDiff, List.replicate_succ, List.replicate_zero, cap, b_raw_odds, hni, Option.isSome_some, hat, hby, bestV, is_nn, stepO]
          | some bj =>
            obtain ⟨b, j⟩ := bj
            have ham := raw_at_most_ok (k := k + 4) (g := g) (S := S') (ovF p.2 x) b hov hb
            by_cases hlt : b.1 * (ovF p.2 x).2 < (ovF p.2 x).1 * b.2
            · rw [decide_eq_false (show ¬ (ovF p.2 x).1 * b.2 ≤ b.1 * (ovF p.2 x).2 by omega)] at ham
              simp only [b_cons, b_nil, s_asg, s_par, s_sub, s_ret, s_expr, s_ife, s_whl, s_for, s_raise, s_pass, e_cst, e_glb0, e_glb1, e_glb2, e_glb3, e_var, e_tup, e_lst, e_dnew, e_bin, e_neg, e_not, e_and, e_or, e_cmp, e_chn, e_ife, e_idx, e_slc, e_rev, e_call, e_bi, e_isi, e_app, e_get2, e_lam, e_lc, l_nil, l_cons, o_none, o_some, i_seq, i_range, i_zip, bind_ok, bind_err, toF_ok, toF_err, fbind_next, fbind_ret, fbind_err, asB_ok, asI_ok, asB_err, truth_ok, truth_err, set_name, set_tup, set_nil, set_cons, fend_next, fend_ret, fend_err, List.length_cons, List.length_nil, List.length_set, List.map_cons, List.map_nil, List.cons_append, List.nil_append, List.getElem?_cons_zero, List.getElem?_cons_succ, List.set_cons_zero, List.set_cons_succ, if_true, if_false, Bool.false_eq_true, Bool.not_true, Bool.not_false, reduceIte, and_self, Nat.reduceAdd, Nat.reduceLT, Nat.reduceLeDiff, Nat.reduceSub, Nat.reduceEqDiff, List.replicate_succ, List.replicate_zero, cap, b_raw_odds, hni, Option.isSome_some, hat, hby, bestV, is_tn, ix0, ham, stepO, hlt]
            · rw [decide_eq_true (show (ovF p.2 x).1 * b.2 ≤ b.1 * (ovF p.2 x).2 by omega)] at ham
              simp only [b_cons, b_nil, s_asg, s_par, s_sub, s_ret, s_expr, s_ife, s_whl, s_for, s_raise, s_pass, e_cst, e_glb0, e_glb1, e_glb2, e_glb3, e_var, e_tup, e_lst, e_dnew, e_bin, e_neg, e_not, e_and, e_or, e_cmp, e_chn, e_ife, e_idx, e_slc, e_rev, e_call, e_bi, e_isi, e_app, e_get2, e_lam, e_lc, l_nil, l_cons, o_none, o_some, i_seq, i_range, i_zip, bind_ok, bind_err, toF_ok, toF_err, fbind_next, fbind_ret, fbind_err, asB_ok, asI_ok, asB_err, truth_ok, truth_err, set_name, set_tup, set_nil, set_cons, fend_next, fend_ret, fend_err, List.length_cons, List.length_nil, List.length_set, List.map_cons, List.map_nil, List.cons_append, List.nil_append, List.getElem?_cons_zero, List.getElem?_cons_succ, List.set_cons_zero, List.set_cons_succ, if_true, if_false, Bool.false_eq_true, Bool.not_true, Bool.not_false, reduceIte, and_self, Nat.reduceAdd, Nat.reduceLT, Nat.reduceLeDiff, Nat.reduceSub, Nat.reduceEqDiff, List.replicate_succ, List.replicate_zero, cap, b_raw_odds, hni, Option.isSome_some, hat, hby, bestV, is_tn, ix0, ham, stepO, hlt])
    ⟨[], l, none, none, none, none, by simp, rfl, rfl, fun _ h => h, rfl, trivial, fun _ => hl.some⟩
  rw [C_at (k := k + 5) (np := 2) (nn := 7) (body := b_raw_odds) rfl rfl]
  have htg : tgOk (.tup (l.map prV)) (.tup (.cons (.name 4) (.cons (.name 5) .nil))) = true := rfl
  have hsq : ∀ S, seqop (chV l) S = .ok (.tup (l.map prV)) S := fun _ => rfl
  rcases hr with ⟨e', S', h1, J, r, best, x4, x5, x6, a, b, c, hr, d, hb, hne⟩ | ⟨v, S', h1, J, a, b⟩
  · have hr0 : r = [] := by
      cases r with
      | nil => rfl
      | cons x r => exact absurd b (by simp)
    subst hr0
    cases best with
    | none => exact absurd rfl (hne rfl)
    | some bj =>
      obtain ⟨b, j⟩ := bj
      refine ⟨[.dic (dicOf fV m)] ++ J, ?_⟩
      rw [← d]
      simp only [b_cons, b_nil, s_asg, s_par, s_sub, s_ret, s_expr, s_ife, s_whl, s_for, s_raise, s_pass, e_cst, e_glb0, e_glb1, e_glb2, e_glb3, e_var, e_tup, e_lst, e_dnew, e_bin, e_neg, e_not, e_and, e_or, e_cmp, e_chn, e_ife, e_idx, e_slc, e_rev, e_call, e_bi, e_isi, e_app, e_get2, e_lam, e_lc, l_nil, l_cons, o_none, o_some, i_seq, i_range, i_zip, bind_ok, bind_err, toF_ok, toF_err, fbind_next, fbind_ret, fbind_err, asB_ok, asI_ok, asB_err, truth_ok, truth_err, set_name, set_tup, set_nil, set_cons, fend_next, fend_ret, fend_err, List.length_cons, List.length_nil, List.length_set, List.map_cons, List.map_nil, List.cons_append, List.nil_append, List.getElem?_cons_zero, List.getElem?_cons_succ, List.set_cons_zero, List.set_cons_succ, if_true, if_false, Bool.false_eq_true, Bool.not_true, Bool.not_false, reduceIte, and_self, Nat.reduceAdd, Nat.reduceLT, Nat.reduceLeDiff, Nat.reduceSub, Nat.reduceEqDiff, List.replicate_succ, List.replicate_zero, cap, b_raw_odds, hd, hsq, htg, Bool.true_eq_false]
      have h1' := h1
      unfold b_raw_odds at h1'
      simp only [] at h1'
      rw [h1']
      subst a
      subst c
      rw [← hS1]
      simp only [b_cons, b_nil, s_asg, s_par, s_sub, s_ret, s_expr, s_ife, s_whl, s_for, s_raise, s_pass, e_cst, e_glb0, e_glb1, e_glb2, e_glb3, e_var, e_tup, e_lst, e_dnew, e_bin, e_neg, e_not, e_and, e_or, e_cmp, e_chn, e_ife, e_idx, e_slc, e_rev, e_call, e_bi, e_isi, e_app, e_get2, e_lam, e_lc, l_nil, l_cons, o_none, o_some, i_seq, i_range, i_zip, bind_ok, bind_err, toF_ok, toF_err, fbind_next, fbind_ret, fbind_err, asB_ok, asI_ok, asB_err, truth_ok, truth_err, set_name, set_tup, set_nil, set_cons, fend_next, fend_ret, fend_err, List.length_cons, List.length_nil, List.length_set, List.map_cons, List.map_nil, List.cons_append, List.nil_append, List.getElem?_cons_zero, List.getElem?_cons_succ, List.set_cons_zero, List.set_cons_succ, if_true, if_false, Bool.false_eq_true, Bool.not_true, Bool.not_false, reduceIte, and_self, Nat.reduceAdd, Nat.reduceLT, Nat.reduceLeDiff, Nat.reduceSub, Nat.reduceEqDiff, List.replicate_succ, List.replicate_zero, cap, bestV, add_12, goO, orV]
      simp only [List.append_assoc, List.cons_append, List.nil_append]
  · refine ⟨[.dic (dicOf fV m)] ++ J, ?_⟩
    simp only [b_cons, b_nil, s_asg, s_par, s_sub, s_ret, s_expr, s_ife, s_whl, s_for, s_raise, s_pass, e_cst, e_glb0, e_glb1, e_glb2, e_glb3, e_var, e_tup, e_lst, e_dnew, e_bin, e_neg, e_not, e_and, e_or, e_cmp, e_chn, e_ife, e_idx, e_slc, e_rev, e_call, e_bi, e_isi, e_app, e_get2, e_lam, e_lc, l_nil, l_cons, o_none, o_some, i_seq, i_range, i_zip, bind_ok, bind_err, toF_ok, toF_err, fbind_next, fbind_ret, fbind_err, asB_ok, asI_ok, asB_err, truth_ok, truth_err, set_name, set_tup, set_nil, set_cons, fend_next, fend_ret, fend_err, List.length_cons, List.length_nil, List.length_set, List.map_cons, List.map_nil, List.cons_append, List.nil_append, List.getElem?_cons_zero, List.getElem?_cons_succ, List.set_cons_zero, List.set_cons_succ, if_true, if_false, Bool.false_eq_true, Bool.not_true, Bool.not_false, reduceIte, and_self, Nat.reduceAdd, Nat.reduceLT, Nat.reduceLeDiff, Nat.reduceSub, Nat.reduceEqDiff, List.replicate_succ, List.replicate_zero, cap, b_raw_odds, hd, hsq, htg, Bool.true_eq_false]
    have h1' := h1
    unfold b_raw_odds at h1'
    simp only [] at h1'
    rw [h1']
    subst a
    subst b
    rw [← hS1]
    simp only [b_cons, b_nil, s_asg, s_par, s_sub, s_ret, s_expr, s_ife, s_whl, s_for, s_raise, s_pass, e_cst, e_glb0, e_glb1, e_glb2, e_glb3, e_var, e_tup, e_lst, e_dnew, e_bin, e_neg, e_not, e_and, e_or, e_cmp, e_chn, e_ife, e_idx, e_slc, e_rev, e_call, e_bi, e_isi, e_app, e_get2, e_lam, e_lc, l_nil, l_cons, o_none, o_some, i_seq, i_range, i_zip, bind_ok, bind_err, toF_ok, toF_err, fbind_next, fbind_ret, fbind_err, asB_ok, asI_ok, asB_err, truth_ok, truth_err, set_name, set_tup, set_nil, set_cons, fend_next, fend_ret, fend_err, List.length_cons, List.length_nil, List.length_set, List.map_cons, List.map_nil, List.cons_append, List.nil_append, List.getElem?_cons_zero, List.getElem?_cons_succ, List.set_cons_zero, List.set_cons_succ, if_true, if_false, Bool.false_eq_true, Bool.not_true, Bool.not_false, reduceIte, and_self, Nat.reduceAdd, Nat.reduceLT, Nat.reduceLeDiff, Nat.reduceSub, Nat.reduceEqDiff, List.replicate_succ, List.replicate_zero, cap, add_12]
    simp only [List.append_assoc, List.cons_append, List.nil_append]
end
end Law
end

section
set_option Elab.async false
set_option linter.all false
set_option autoImplicit false
set_option maxRecDepth 100000
namespace Law
open PySem Ev
section
variable {k : Nat} {g : Bool} {S : Store} {q : Ev.Ctx} {e : Ev.Env}
theorem law_odds_ok (l m : List (Nat × Frac)) (hl : Ch l) (hm : Ch m) : Ans (k + 8) g 27 [chV l, chV m] (orV (oddsP l m)) S := .of fun S => by
  have hd := dict_ok (S := S) m hm.outs g
  generalize hS1 : S ++ [.dic (dicOf fV m)] = S1 at hd
  have hS1d : S1[S.length]? = some (.dic (dicOf fV m)) := by rw [← hS1]; exact app_last
  have hr := for_run (q := ⟨CC (k + 7) g, CC (k + 5) false, g⟩) (t := .tup (.cons (.name 4) (.cons (.name 5) .nil))) (b := (match b__law_odds with | .cons _ (.cons (.for _ _ b) _) => b | _ => .nil)) (src := .tup (l.map prV)) (S := S1) (e := [some (chV l), some (chV m), some (.obj S.length), some .non, none, none, none]) (l.map prV)
    (fun rest e S' => ∃ J r best x4 x5 x6, S' = S1 ++ J ∧ rest = r.map prV ∧ e = [some (chV l), some (chV m), some (.obj S.length), some (bestL best), x4, x5, x6] ∧ (∀ p ∈ r, p ∈ l) ∧ goO m r best = oddsP l m ∧ BestOk best ∧ (best = none → r ≠ []))
    (fun v S' => ∃ J, S' = S1 ++ J ∧ v = orV (oddsP l m)) rfl (fun _ _ _ _ _ => rfl)
    (fun v rest e S' ⟨J, r, best, x4, x5, x6, a, b, c, hr, d, hb, hne⟩ => by
      cases r with
      | nil => exact absurd b (by simp)
      | cons p r =>
        rw [List.map_cons] at b
        injection b with b1 b2
        have hp := hr p (List.mem_cons_self ..)
        have hi := hl.lt p hp
        have hdic : S'[S.length]? = some (.dic (dicOf fV m)) := by rw [a]; exact app_get hS1d
        have hni := notin_ok (S := S') hdic hi hm.lt
        refine ⟨[some (chV l), some (chV m), some (.obj S.length), some (bestL best), some (oV p.1), some (fV p.2), x6], by rw [b1, c]; rfl, ?_⟩
        unfold goO at d
        cases hg : get m p.1 with
        | none =>
          rw [hg] at hni d
          refine .inr ⟨orV (oddsP l m), S', ?_, J, a, rfl⟩
          rw [← d]
          simp only [b_cons, b_nil, s_asg, s_par, s_sub, s_ret, s_expr, s_ife, s_whl, s_for, s_raise, s_pass, e_cst, e_glb0, e_glb1, e_glb2, e_glb3, e_var, e_tup, e_lst, e_dnew, e_bin, e_neg, e_not, e_and, e_or, e_cmp, e_chn, e_ife, e_idx, e_slc, e_rev, e_call, e_bi, e_isi, e_app, e_get2, e_lam, e_lc, l_nil, l_cons, o_none, o_some, i_seq, i_range, i_zip, bind_ok, bind_err, toF_ok, toF_err, fbind_next, fbind_ret, fbind_err, asB_ok, asI_ok, asB_err, truth_ok, truth_err, set_name, set_tup, set_nil, set_cons, fend_next, fend_ret, fend_err, List.length_cons, List.length_nil, List.length_set, List.map_cons, List.map_nil, List.cons_append, List.nil_append, List.getElem?_cons_zero, List.getElem?_cons_succ, List.set_cons_zero, List.set_cons_succ, if_true, if_false, Bool.false_eq_true, Bool.not_true, Bool.not_false, reduceIte, and_self, Nat.reduceAdd, Nat.reduceLT, Nat.reduceLeDiff, Nat.reduceSub, Nat.reduceEqDiff, List.replicate_succ, List.replicate_zero, cap, b__law_odds, hni, Option.isSome_none, orV]
        | some x =>
          rw [hg] at hni d
          have hx := hm.sm _ (get_mem hg)
          have hat := at_dic (S := S') hdic hi hm.lt hg
          have hp2 := hl.sm p hp
          have hby : CC (k + 7) g 25 [fV p.2, fV x] S' = .ok (fV (ovF p.2 x)) S' := over_ok (k := k + 1) p.2 x hp2.sh hx.sh hx.1
          have hov := ov_ShF hp2 hx
          refine .inl ⟨[some (chV l), some (chV m), some (.obj S.length), some (bestL (some (stepO best (ovF p.2 x) p.1))), some (oV p.1), some (fV p.2), some (fV (ovF p.2 x))], S', ?_, J, r, some (stepO best (ovF p.2 x) p.1), _, _, _, a, b2, rfl, fun y hy => hr y (List.mem_cons_of_mem _ hy), d, stepO_ok hb hov, fun h => nomatch h⟩
          cases best with
          | none =>
            simp only [b_cons, b_nil, s_asg, s_par, s_sub, s_ret, s_expr, s_ife, s_whl, s_for, s_raise, s_pass, e_cst, e_glb0, e_glb1, e_glb2, e_glb3, e_var, e_tup, e_lst, e_dnew, e_bin, e_neg, e_not, e_and, e_or, e_cmp, e_chn, e_ife, e_idx, e_slc, e_rev, e_call, e_bi, e_isi, e_app, e_get2, e_lam, e_lc, l_nil, l_cons, o_none, o_some, i_seq, i_range, i_zip, bind_ok, bind_err, toF_ok, toF_err, fbind_next, fbind_ret, fbind_err, asB_ok, asI_ok, asB_err, truth_ok, truth_err, set_name, set_tup, set_nil, set_cons, fend_next, fend_ret, fend_err, List.length_cons, List.length_nil, List.length_set, List.map_cons, List.map_nil, List.cons_append, List.nil_append, List.getElem?_cons_zero, List.getElem?_cons_succ, List.set_cons_zero, List.set_cons_succ, if_true, if_false, Bool.false_eq_true, Bool.not_true, Bool.not_false, reduceIte, and_self, Nat.reduceAdd, Nat.reduceLT, Nat.reduceLeDiff, Nat.reduceSub, Nat.reduceEqDiff, List.replicate_succ, List.replicate_zero, cap, b__law_odds, hni, Option.isSome_some, hat, hby, bestL, is_nn, stepO]
          | some bj =>
            obtain ⟨b, j⟩ := bj
            have ham := less_ok (k := k + 4) (g := g) (S := S') b (ovF p.2 x) hb hov
            by_cases hlt : b.1 * (ovF p.2 x).2 < (ovF p.2 x).1 * b.2
            · rw [decide_eq_true hlt] at ham
              simp only [b_cons, b_nil, s_asg, s_par, s_sub, s_ret, s_expr, s_ife, s_whl, s_for, s_raise, s_pass, e_cst, e_glb0, e_glb1, e_glb2, e_glb3, e_var, e_tup, e_lst, e_dnew, e_bin, e_neg, e_not, e_and, e_or, e_cmp, e_chn, e_ife, e_idx, e_slc, e_rev, e_call, e_bi, e_isi, e_app, e_get2, e_lam, e_lc, l_nil, l_cons, o_none, o_some, i_seq, i_range, i_zip, bind_ok, bind_err, toF_ok, toF_err, fbind_next, fbind_ret, fbind_err, asB_ok, asI_ok, asB_err, truth_ok, truth_err, set_name, set_tup, set_nil, set_cons, fend_next, fend_ret, fend_err, List.length_cons, List.length_nil, List.length_set, List.map_cons, List.map_nil, List.cons_append, List.nil_append, List.getElem?_cons_zero, List.getElem?_cons_succ, List.set_cons_zero, List.set_cons_succ, if_true, if_false, Bool.false_eq_true, Bool.not_true, Bool.not_false, reduceIte, and_self, Nat.reduceAdd, Nat.reduceLT, Nat.reduceLeDiff, Nat.reduceSub, Nat.reduceEqDiff, List.replicate_succ, List.replicate_zero, cap, b__law_odds, hni, Option.isSome_some, hat, hby, bestL, is_tn, ix1, ham, stepO, hlt]
            · rw [decide_eq_false hlt] at ham
              simp only [b_cons, b_nil, s_asg, s_par, s_sub, s_ret, s_expr, s_ife, s_whl, s_for, s_raise, s_pass, e_cst, e_glb0, e_glb1, e_glb2, e_glb3, e_var, e_tup, e_lst, e_dnew, e_bin, e_neg, e_not, e_and, e_or, e_cmp, e_chn, e_ife, e_idx, e_slc, e_rev, e_call, e_bi, e_isi, e_app, e_get2, e_lam, e_lc, l_nil, l_cons, o_none, o_some, i_seq, i_range, i_zip, bind_ok, bind_err, toF_ok, toF_err, fbind_next, fbind_ret, fbind_err, asB_ok, asI_ok, asB_err, truth_ok, truth_err, set_name, set_tup, set_nil, set_cons, fend_next, fend_ret, fend_err, List.length_cons, List.length_nil, List.length_set, List.map_cons, List.map_nil, List.cons_append, List.nil_append, List.getElem?_cons_zero, List.getElem?_cons_succ, List.set_cons_zero, List.set_cons_succ, if_true, if_false, Bool.false_eq_true, Bool.not_true, Bool.not_false, reduceIte, and_self, Nat.reduceAdd, Nat.reduceLT, Nat.reduceLeDiff, Nat.reduceSub, Nat.reduceEqDiff, List.replicate_succ, List.replicate_zero, cap, b__law_odds, hni, Option.isSome_some, hat, hby, bestL, is_tn, ix1, ham, stepO, hlt])
    ⟨[], l, none, none, none, none, by simp, rfl, rfl, fun _ h => h, rfl, trivial, fun _ => hl.some⟩
  rw [C_at (k := k + 5) (np := 2) (nn := 7) (body := b__law_odds) rfl rfl]
  have htg : tgOk (.tup (l.map prV)) (.tup (.cons (.name 4) (.cons (.name 5) .nil))) = true := rfl
  have hsq : ∀ S, seqop (chV l) S = .ok (.tup (l.map prV)) S := fun _ => rfl
  rcases hr with ⟨e', S', h1, J, r, best, x4, x5, x6, a, b, c, hr, d, hb, hne⟩ | ⟨v, S', h1, J, a, b⟩
  · have hr0 : r = [] := by
      cases r with
      | nil => rfl
      | cons x r => exact absurd b (by simp)
    subst hr0
    cases best with
    | none => exact absurd rfl (hne rfl)
    | some bj =>
      obtain ⟨b, j⟩ := bj
      refine ⟨[.dic (dicOf fV m)] ++ J, ?_⟩
      rw [← d]
      simp only [b_cons, b_nil, s_asg, s_par, s_sub, s_ret, s_expr, s_ife, s_whl, s_for, s_raise, s_pass, e_cst, e_glb0, e_glb1, e_glb2, e_glb3, e_var, e_tup, e_lst, e_dnew, e_bin, e_neg, e_not, e_and, e_or, e_cmp, e_chn, e_ife, e_idx, e_slc, e_rev, e_call, e_bi, e_isi, e_app, e_get2, e_lam, e_lc, l_nil, l_cons, o_none, o_some, i_seq, i_range, i_zip, bind_ok, bind_err, toF_ok, toF_err, fbind_next, fbind_ret, fbind_err, asB_ok, asI_ok, asB_err, truth_ok, truth_err, set_name, set_tup, set_nil, set_cons, fend_next, fend_ret, fend_err, List.length_cons, List.length_nil, List.length_set, List.map_cons, List.map_nil, List.cons_append, List.nil_append, List.getElem?_cons_zero, List.getElem?_cons_succ, List.set_cons_zero, List.set_cons_succ, if_true, if_false, Bool.false_eq_true, Bool.not_true, Bool.not_false, reduceIte, and_self, Nat.reduceAdd, Nat.reduceLT, Nat.reduceLeDiff, Nat.reduceSub, Nat.reduceEqDiff, List.replicate_succ, List.replicate_zero, cap, b__law_odds, hd, hsq, htg, Bool.true_eq_false]
      have h1' := h1
      unfold b__law_odds at h1'
      simp only [] at h1'
      rw [h1']
      subst a
      subst c
      rw [← hS1]
      simp only [b_cons, b_nil, s_asg, s_par, s_sub, s_ret, s_expr, s_ife, s_whl, s_for, s_raise, s_pass, e_cst, e_glb0, e_glb1, e_glb2, e_glb3, e_var, e_tup, e_lst, e_dnew, e_bin, e_neg, e_not, e_and, e_or, e_cmp, e_chn, e_ife, e_idx, e_slc, e_rev, e_call, e_bi, e_isi, e_app, e_get2, e_lam, e_lc, l_nil, l_cons, o_none, o_some, i_seq, i_range, i_zip, bind_ok, bind_err, toF_ok, toF_err, fbind_next, fbind_ret, fbind_err, asB_ok, asI_ok, asB_err, truth_ok, truth_err, set_name, set_tup, set_nil, set_cons, fend_next, fend_ret, fend_err, List.length_cons, List.length_nil, List.length_set, List.map_cons, List.map_nil, List.cons_append, List.nil_append, List.getElem?_cons_zero, List.getElem?_cons_succ, List.set_cons_zero, List.set_cons_succ, if_true, if_false, Bool.false_eq_true, Bool.not_true, Bool.not_false, reduceIte, and_self, Nat.reduceAdd, Nat.reduceLT, Nat.reduceLeDiff, Nat.reduceSub, Nat.reduceEqDiff, List.replicate_succ, List.replicate_zero, cap, bestL, add_12, goO, orV]
      simp only [List.append_assoc, List.cons_append, List.nil_append]
  · refine ⟨[.dic (dicOf fV m)] ++ J, ?_⟩
    simp only [b_cons, b_nil, s_asg, s_par, s_sub, s_ret, s_expr, s_ife, s_whl, s_for, s_raise, s_pass, e_cst, e_glb0, e_glb1, e_glb2, e_glb3, e_var, e_tup, e_lst, e_dnew, e_bin, e_neg, e_not, e_and, e_or, e_cmp, e_chn, e_ife, e_idx, e_slc, e_rev, e_call, e_bi, e_isi, e_app, e_get2, e_lam, e_lc, l_nil, l_cons, o_none, o_some, i_seq, i_range, i_zip, bind_ok, bind_err, toF_ok, toF_err, fbind_next, fbind_ret, fbind_err, asB_ok, asI_ok, asB_err, truth_ok, truth_err, set_name, set_tup, set_nil, set_cons, fend_next, fend_ret, fend_err, List.length_cons, List.length_nil, List.length_set, List.map_cons, List.map_nil, List.cons_append, List.nil_append, List.getElem?_cons_zero, List.getElem?_cons_succ, List.set_cons_zero, List.set_cons_succ, if_true, if_false, Bool.false_eq_true, Bool.not_true, Bool.not_false, reduceIte, and_self, Nat.reduceAdd, Nat.reduceLT, Nat.reduceLeDiff, Nat.reduceSub, Nat.reduceEqDiff, List.replicate_succ, List.replicate_zero, cap, b__law_odds, hd, hsq, htg, Bool.true_eq_false]
    have h1' := h1
    unfold b__law_odds at h1'
    simp only [] at h1'
    rw [h1']
    subst a
    subst b
    rw [← hS1]
    simp only [b_cons, b_nil, s_asg, s_par, s_sub, s_ret, s_expr, s_ife, s_whl, s_for, s_raise, s_pass, e_cst, e_glb0, e_glb1, e_glb2, e_glb3, e_var, e_tup, e_lst, e_dnew, e_bin, e_neg, e_not, e_and, e_or, e_cmp, e_chn, e_ife, e_idx, e_slc, e_rev, e_call, e_bi, e_isi, e_app, e_get2, e_lam, e_lc, l_nil, l_cons, o_none, o_some, i_seq, i_range, i_zip, bind_ok, bind_err, toF_ok, toF_err, fbind_next, fbind_ret, fbind_err, asB_ok, asI_ok, asB_err, truth_ok, truth_err, set_name, set_tup, set_nil, set_cons, fend_next, fend_ret, fend_err, List.length_cons, List.length_nil, List.length_set, List.map_cons, List.map_nil, List.cons_append, List.nil_append, List.getElem?_cons_zero, List.getElem?_cons_succ, List.set_cons_zero, List.set_cons_succ, if_true, if_false, Bool.false_eq_true, Bool.not_true, Bool.not_false, reduceIte, and_self, Nat.reduceAdd, Nat.reduceLT, Nat.reduceLeDiff, Nat.reduceSub, Nat.reduceEqDiff, List.replicate_succ, List.replicate_zero, cap, add_12]
    simp only [List.append_assoc, List.cons_append, List.nil_append]
/-! right ones are right -/
structure D (iw : List (Nat × Int)) : Prop where
  outs : Outs (iw.map (·.1))
  w : ∀ p ∈ iw, 0 < p.2 ∧ p.2 ≤ 10 ^ 30
  few : iw.length ≤ 7
  some : iw ≠ []
def dl (iw : List (Nat × Int)) : List (Nat × Frac) := iw.map (sh (tot iw))
theorem tot_le : ∀ {l : List (Nat × Int)}, (∀ p ∈ l, 0 < p.2 ∧ p.2 ≤ 10 ^ 30) → tot l ≤ l.length * 10 ^ 30
  | [], _ => by decide
  | p :: l, h => by
    have h1 := tot_le fun p' h' => h p' (List.mem_cons_of_mem _ h')
    have h2 := h p (List.mem_cons_self ..)
    rw [tot_cons, List.length_cons]
    omega
theorem D.pos {iw : List (Nat × Int)} (h : D iw) : 0 < tot iw := by
  cases iw with
  | nil => exact absurd rfl h.some
  | cons p l =>
    have h1 := tot_nonneg fun p' h' => (h.w p' (List.mem_cons_of_mem _ h')).1
    have h2 := h.w p (List.mem_cons_self ..)
    rw [tot_cons]
    omega
theorem D.few31 {iw : List (Nat × Int)} (h : D iw) : tot iw ≤ 7 * 10 ^ 30 := by
  have h1 := tot_le h.w
  have h2 := h.few
  omega
theorem map_sh_fst (s : Int) (l : List (Nat × Int)) : (l.map (sh s)).map (·.1) = l.map (·.1) := by
  rw [List.map_map]
  rfl
theorem D.ch {iw : List (Nat × Int)} (h : D iw) : Ch (dl iw) where
  outs := by
    unfold dl
    rw [map_sh_fst]
    exact h.outs
  sm := by
    intro p hp
    obtain ⟨p', h1, rfl⟩ := List.mem_map.mp hp
    obtain ⟨h2, h3⟩ := h.w p' h1
    have h4 := h.pos
    have h5 := h.few31
    exact rd_Sm h2 h4 (by omega) (by omega)
  some := by
    unfold dl
    intro h0
    exact h.some (List.map_eq_nil_iff.mp h0)
theorem D.good {iw : List (Nat × Int)} (h : D iw) : Ans (k + 8) g 11 [chV (dl iw)] (.bl true) S := by
  have h4 := h.pos
  have h5 := h.few31
  have := are_chances_gen (k := k) (g := g) (S := S) (tot iw) h4 (by omega) iw (fun p hp => ⟨(h.w p hp).1, le_tot (fun p hp => (h.w p hp).1) p hp⟩) (by omega) h.outs
  rwa [decide_eq_true rfl] at this
theorem check_ok {v w : Val} (h1 : ∀ S, Ans (k + 8) g 11 [v] (.bl true) S) (h2 : ∀ S, Ans (k + 8) g 11 [w] (.bl true) S) : Ans (k + 9) g 12 [v, w] .non S := .of fun S => by
  obtain ⟨J, hJ⟩ := (h1 S).now
  obtain ⟨J2, hJ2⟩ := (h2 (S ++ J)).now
  refine ⟨J ++ J2, ?_⟩
  rw [C_at (k := k + 6) (np := 2) (nn := 2) (body := b_check_chances) rfl rfl]
  simp only [b_cons, b_nil, s_asg, s_par, s_sub, s_ret, s_expr, s_ife, s_whl, s_for, s_raise, s_pass, e_cst, e_glb0, e_glb1, e_glb2, e_glb3, e_var, e_tup, e_lst, e_dnew, e_bin, e_neg, e_not, e_and, e_or, e_cmp, e_chn, e_ife, e_idx, e_slc, e_rev, e_call, e_bi, e_isi, e_app, e_get2, e_lam, e_lc, l_nil, l_cons, o_none, o_some, i_seq, i_range, i_zip, bind_ok, bind_err, toF_ok, toF_err, fbind_next, fbind_ret, fbind_err, asB_ok, asI_ok, asB_err, truth_ok, truth_err, set_name, set_tup, set_nil, set_cons, fend_next, fend_ret, fend_err, List.length_cons, List.length_nil, List.length_set, List.map_cons, List.map_nil, List.cons_append, List.nil_append, List.getElem?_cons_zero, List.getElem?_cons_succ, List.set_cons_zero, List.set_cons_succ, if_true, if_false, Bool.false_eq_true, Bool.not_true, Bool.not_false, reduceIte, and_self, Nat.reduceAdd, Nat.reduceLT, Nat.reduceLeDiff, Nat.reduceSub, Nat.reduceEqDiff, List.replicate_succ, List.replicate_zero, cap, b_check_chances, hJ, hJ2]
  rw [List.append_assoc]
theorem check_no1 {v w : Val} (h1 : ∀ S, Ans (k + 8) g 11 [v] (.bl false) S) : ∃ J, CC (k + 9) g 12 [v, w] S = .err 1 (S ++ J) := by
  obtain ⟨J, hJ⟩ := (h1 S).now
  refine ⟨J, ?_⟩
  rw [C_at (k := k + 6) (np := 2) (nn := 2) (body := b_check_chances) rfl rfl]
  simp only [b_cons, b_nil, s_asg, s_par, s_sub, s_ret, s_expr, s_ife, s_whl, s_for, s_raise, s_pass, e_cst, e_glb0, e_glb1, e_glb2, e_glb3, e_var, e_tup, e_lst, e_dnew, e_bin, e_neg, e_not, e_and, e_or, e_cmp, e_chn, e_ife, e_idx, e_slc, e_rev, e_call, e_bi, e_isi, e_app, e_get2, e_lam, e_lc, l_nil, l_cons, o_none, o_some, i_seq, i_range, i_zip, bind_ok, bind_err, toF_ok, toF_err, fbind_next, fbind_ret, fbind_err, asB_ok, asI_ok, asB_err, truth_ok, truth_err, set_name, set_tup, set_nil, set_cons, fend_next, fend_ret, fend_err, List.length_cons, List.length_nil, List.length_set, List.map_cons, List.map_nil, List.cons_append, List.nil_append, List.getElem?_cons_zero, List.getElem?_cons_succ, List.set_cons_zero, List.set_cons_succ, if_true, if_false, Bool.false_eq_true, Bool.not_true, Bool.not_false, reduceIte, and_self, Nat.reduceAdd, Nat.reduceLT, Nat.reduceLeDiff, Nat.reduceSub, Nat.reduceEqDiff, List.replicate_succ, List.replicate_zero, cap, b_check_chances, hJ]
theorem check_no2 {v w : Val} (h1 : ∀ S, Ans (k + 8) g 11 [v] (.bl true) S) (h2 : ∀ S, Ans (k + 8) g 11 [w] (.bl false) S) : ∃ J, CC (k + 9) g 12 [v, w] S = .err 1 (S ++ J) := by
  obtain ⟨J, hJ⟩ := (h1 S).now
  obtain ⟨J2, hJ2⟩ := (h2 (S ++ J)).now
  refine ⟨J ++ J2, ?_⟩
  rw [C_at (k := k + 6) (np := 2) (nn := 2) (body := b_check_chances) rfl rfl]
  simp only [b_cons, b_nil, s_asg, s_par, s_sub, s_ret, s_expr, s_ife, s_whl, s_for, s_raise, s_pass, e_cst, e_glb0, e_glb1, e_glb2, e_glb3, e_var, e_tup, e_lst, e_dnew, e_bin, e_neg, e_not, e_and, e_or, e_cmp, e_chn, e_ife, e_idx, e_slc, e_rev, e_call, e_bi, e_isi, e_app, e_get2, e_lam, e_lc, l_nil, l_cons, o_none, o_some, i_seq, i_range, i_zip, bind_ok, bind_err, toF_ok, toF_err, fbind_next, fbind_ret, fbind_err, asB_ok, asI_ok, asB_err, truth_ok, truth_err, set_name, set_tup, set_nil, set_cons, fend_next, fend_ret, fend_err, List.length_cons, List.length_nil, List.length_set, List.map_cons, List.map_nil, List.cons_append, List.nil_append, List.getElem?_cons_zero, List.getElem?_cons_succ, List.set_cons_zero, List.set_cons_succ, if_true, if_false, Bool.false_eq_true, Bool.not_true, Bool.not_false, reduceIte, and_self, Nat.reduceAdd, Nat.reduceLT, Nat.reduceLeDiff, Nat.reduceSub, Nat.reduceEqDiff, List.replicate_succ, List.replicate_zero, cap, b_check_chances, hJ, hJ2]
  rw [List.append_assoc]
theorem odds_ok {l m : List (Nat × Int)} (hl : D l) (hm : D m) : Ans (k + 10) g 14 [chV (dl l), chV (dl m)] (orV (oddsP (dl l) (dl m))) S := .of fun S => by
  obtain ⟨J, hJ⟩ := (check_ok (k := k) (g := g) (S := S) (fun _ => hl.good) (fun _ => hm.good)).now
  obtain ⟨J2, hJ2⟩ := (raw_odds_ok (k := k + 1) (g := g) (S := S ++ J) (dl l) (dl m) hl.ch hm.ch).now
  refine ⟨J ++ J2, ?_⟩
  rw [C_at (k := k + 7) (np := 2) (nn := 2) (body := b_odds) rfl rfl]
  simp only [b_cons, b_nil, s_asg, s_par, s_sub, s_ret, s_expr, s_ife, s_whl, s_for, s_raise, s_pass, e_cst, e_glb0, e_glb1, e_glb2, e_glb3, e_var, e_tup, e_lst, e_dnew, e_bin, e_neg, e_not, e_and, e_or, e_cmp, e_chn, e_ife, e_idx, e_slc, e_rev, e_call, e_bi, e_isi, e_app, e_get2, e_lam, e_lc, l_nil, l_cons, o_none, o_some, i_seq, i_range, i_zip, bind_ok, bind_err, toF_ok, toF_err, fbind_next, fbind_ret, fbind_err, asB_ok, asI_ok, asB_err, truth_ok, truth_err, set_name, set_tup, set_nil, set_cons, fend_next, fend_ret, fend_err, List.length_cons, List.length_nil, List.length_set, List.map_cons, List.map_nil, List.cons_append, List.nil_append, List.getElem?_cons_zero, List.getElem?_cons_succ, List.set_cons_zero, List.set_cons_succ, if_true, if_false, Bool.false_eq_true, Bool.not_true, Bool.not_false, reduceIte, and_self, Nat.reduceAdd, Nat.reduceLT, Nat.reduceLeDiff, Nat.reduceSub, Nat.reduceEqDiff, List.replicate_succ, List.replicate_zero, cap, b_odds, hJ, hJ2]
  rw [List.append_assoc]
/-! the greater way -/
def bothP : OR → OR → OR × Bool
  | .endl i, _ => (.endl i, false)
  | .odds _ _, .endl j => (.endl j, true)
  | .odds x i, .odds y j => if x.1 * y.2 < y.1 * x.2 then (.odds y j, true) else (.odds x i, false)
def bothV : OR × Bool → Val
  | (.odds x i, t) => .tup [.str "odds", fV x, oV i, .bl t]
  | (.endl i, t) => .tup [.str "endless", oV i, .bl t]
theorem goO_sh (m : List (Nat × Frac)) (hm : ∀ p ∈ m, Sm p.2) : ∀ (r : List (Nat × Frac)) (best : Option (Frac × Nat)), (∀ p ∈ r, Sm p.2) → BestOk best → ∀ x i, goO m r best = .odds x i → ShF x
  | [], none, _, _, _, _, h => nomatch h
  | [], some (b, j), _, hb, x, i, h => by
    injection h with h1 h2
    rw [← h1]
    exact hb
  | p :: r, best, hr, hb, x, i, h => by
    unfold goO at h
    cases hg : get m p.1 with
    | none => rw [hg] at h; exact nomatch h
    | some d =>
      rw [hg] at h
      have hp := hr p (List.mem_cons_self ..)
      have hd := hm _ (get_mem hg)
      exact goO_sh m hm r _ (fun p' h' => hr p' (List.mem_cons_of_mem _ h')) (stepO_ok hb (ov_ShF hp hd)) x i h
theorem odds_sh {l m : List (Nat × Frac)} (hl : Ch l) (hm : Ch m) {x : Frac} {i : Nat} (h : oddsP l m = .odds x i) : ShF x := goO_sh m hm.sm l none hl.sm trivial x i h
theorem toD_str {x : Str} (d : Nat) (h : PyData.strOk x = true) : toD S d (.str x) = some (.str x) := by
  have e : toD S d (.str x) = if PyData.strOk x = true then some (.str x) else none := by cases d <;> rfl
  rw [e, if_pos h]
theorem eq_str {x y : Str} (hx : PyData.strOk x = true) (hy : PyData.strOk y = true) : cmpop .eq (.str x) (.str y) S = .ok (.bl (x == y)) S := by
  have e : eqD S (.str x) (.str y) = some (x == y) := by
    unfold eqD
    rw [toD_str _ hx, toD_str _ hy]
    simp [PyData.eqv]
  show (match eqD S (.str x) (.str y) with | some c => R.ok (Val.bl c) S | none => .stuck) = _
  rw [e]
theorem so1 : PyData.strOk "odds" = true := by decide +kernel
theorem so2 : PyData.strOk "endless" = true := by decide +kernel
theorem sq1 : (("odds" : Str) == ("endless" : Str)) = false := by decide +kernel
theorem sq2 : (("endless" : Str) == ("odds" : Str)) = false := by decide +kernel
theorem eq_oe : cmpop .eq (.str "odds") (.str "endless") S = .ok (.bl false) S := by rw [eq_str so1 so2, sq1]
theorem eq_ee : cmpop .eq (.str "endless") (.str "endless") S = .ok (.bl true) S := by rw [eq_str so2 so2, beq_self_eq_true]
theorem eq_oo : cmpop .eq (.str "odds") (.str "odds") S = .ok (.bl true) S := by rw [eq_str so1 so1, beq_self_eq_true]
theorem eq_eo : cmpop .eq (.str "endless") (.str "odds") S = .ok (.bl false) S := by rw [eq_str so2 so1, sq2]
theorem raw_both_ok {l m : List (Nat × Frac)} (hl : Ch l) (hm : Ch m) : Ans (k + 9) g 15 [chV l, chV m] (bothV (bothP (oddsP l m) (oddsP m l))) S := .of fun S => by
  obtain ⟨J, hJ⟩ := (raw_odds_ok (k := k) (g := g) (S := S) l m hl hm).now
  obtain ⟨J2, hJ2⟩ := (raw_odds_ok (k := k) (g := g) (S := S ++ J) m l hm hl).now
  refine ⟨J ++ J2, ?_⟩
  rw [C_at (k := k + 6) (np := 2) (nn := 4) (body := b_raw_both) rfl rfl]
  cases h1 : oddsP l m with
  | endl i =>
    rw [h1] at hJ
    cases h2 : oddsP m l with
    | endl j =>
      rw [h2] at hJ2
      simp only [b_cons, b_nil, s_asg, s_par, s_sub, s_ret, s_expr, s_ife, s_whl, s_for, s_raise, s_pass, e_cst, e_glb0, e_glb1, e_glb2, e_glb3, e_var, e_tup, e_lst, e_dnew, e_bin, e_neg, e_not, e_and, e_or, e_cmp, e_chn, e_ife, e_idx, e_slc, e_rev, e_call, e_bi, e_isi, e_app, e_get2, e_lam, e_lc, l_nil, l_cons, o_none, o_some, i_seq, i_range, i_zip, bind_ok, bind_err, toF_ok, toF_err, fbind_next, fbind_ret, fbind_err, asB_ok, asI_ok, asB_err, truth_ok, truth_err, set_name, set_tup, set_nil, set_cons, fend_next, fend_ret, fend_err, List.length_cons, List.length_nil, List.length_set, List.map_cons, List.map_nil, List.cons_append, List.nil_append, List.getElem?_cons_zero, List.getElem?_cons_succ, List.set_cons_zero, List.set_cons_succ, if_true, if_false, Bool.false_eq_true, Bool.not_true, Bool.not_false, reduceIte, and_self, Nat.reduceAdd, Nat.reduceLT, Nat.reduceLeDiff, Nat.reduceSub, Nat.reduceEqDiff, List.replicate_succ, List.replicate_zero, cap, b_raw_both, hJ, hJ2, orV, ix0, eq_ee, add_21, bothP, bothV]
      rw [List.append_assoc]
    | odds y j =>
      rw [h2] at hJ2
      simp only [b_cons, b_nil, s_asg, s_par, s_sub, s_ret, s_expr, s_ife, s_whl, s_for, s_raise, s_pass, e_cst, e_glb0, e_glb1, e_glb2, e_glb3, e_var, e_tup, e_lst, e_dnew, e_bin, e_neg, e_not, e_and, e_or, e_cmp, e_chn, e_ife, e_idx, e_slc, e_rev, e_call, e_bi, e_isi, e_app, e_get2, e_lam, e_lc, l_nil, l_cons, o_none, o_some, i_seq, i_range, i_zip, bind_ok, bind_err, toF_ok, toF_err, fbind_next, fbind_ret, fbind_err, asB_ok, asI_ok, asB_err, truth_ok, truth_err, set_name, set_tup, set_nil, set_cons, fend_next, fend_ret, fend_err, List.length_cons, List.length_nil, List.length_set, List.map_cons, List.map_nil, List.cons_append, List.nil_append, List.getElem?_cons_zero, List.getElem?_cons_succ, List.set_cons_zero, List.set_cons_succ, if_true, if_false, Bool.false_eq_true, Bool.not_true, Bool.not_false, reduceIte, and_self, Nat.reduceAdd, Nat.reduceLT, Nat.reduceLeDiff, Nat.reduceSub, Nat.reduceEqDiff, List.replicate_succ, List.replicate_zero, cap, b_raw_both, hJ, hJ2, orV, ix0, eq_ee, add_21, bothP, bothV]
      rw [List.append_assoc]
  | odds x i =>
    rw [h1] at hJ
    cases h2 : oddsP m l with
    | endl j =>
      rw [h2] at hJ2
      simp only [b_cons, b_nil, s_asg, s_par, s_sub, s_ret, s_expr, s_ife, s_whl, s_for, s_raise, s_pass, e_cst, e_glb0, e_glb1, e_glb2, e_glb3, e_var, e_tup, e_lst, e_dnew, e_bin, e_neg, e_not, e_and, e_or, e_cmp, e_chn, e_ife, e_idx, e_slc, e_rev, e_call, e_bi, e_isi, e_app, e_get2, e_lam, e_lc, l_nil, l_cons, o_none, o_some, i_seq, i_range, i_zip, bind_ok, bind_err, toF_ok, toF_err, fbind_next, fbind_ret, fbind_err, asB_ok, asI_ok, asB_err, truth_ok, truth_err, set_name, set_tup, set_nil, set_cons, fend_next, fend_ret, fend_err, List.length_cons, List.length_nil, List.length_set, List.map_cons, List.map_nil, List.cons_append, List.nil_append, List.getElem?_cons_zero, List.getElem?_cons_succ, List.set_cons_zero, List.set_cons_succ, if_true, if_false, Bool.false_eq_true, Bool.not_true, Bool.not_false, reduceIte, and_self, Nat.reduceAdd, Nat.reduceLT, Nat.reduceLeDiff, Nat.reduceSub, Nat.reduceEqDiff, List.replicate_succ, List.replicate_zero, cap, b_raw_both, hJ, hJ2, orV, ix0, eq_ee, eq_oe, add_21, bothP, bothV]
      rw [List.append_assoc]
    | odds y j =>
      rw [h2] at hJ2
      have ham := raw_at_most_ok (k := k + 5) (g := g) (S := S ++ J ++ J2) y x (odds_sh hm hl h2) (odds_sh hl hm h1)
      by_cases hlt : x.1 * y.2 < y.1 * x.2
      · rw [decide_eq_false (show ¬ y.1 * x.2 ≤ x.1 * y.2 by omega)] at ham
        simp only [b_cons, b_nil, s_asg, s_par, s_sub, s_ret, s_expr, s_ife, s_whl, s_for, s_raise, s_pass, e_cst, e_glb0, e_glb1, e_glb2, e_glb3, e_var, e_tup, e_lst, e_dnew, e_bin, e_neg, e_not, e_and, e_or, e_cmp, e_chn, e_ife, e_idx, e_slc, e_rev, e_call, e_bi, e_isi, e_app, e_get2, e_lam, e_lc, l_nil, l_cons, o_none, o_some, i_seq, i_range, i_zip, bind_ok, bind_err, toF_ok, toF_err, fbind_next, fbind_ret, fbind_err, asB_ok, asI_ok, asB_err, truth_ok, truth_err, set_name, set_tup, set_nil, set_cons, fend_next, fend_ret, fend_err, List.length_cons, List.length_nil, List.length_set, List.map_cons, List.map_nil, List.cons_append, List.nil_append, List.getElem?_cons_zero, List.getElem?_cons_succ, List.set_cons_zero, List.set_cons_succ, if_true, if_false, Bool.false_eq_true, Bool.not_true, Bool.not_false, reduceIte, and_self, Nat.reduceAdd, Nat.reduceLT, Nat.reduceLeDiff, Nat.reduceSub, Nat.reduceEqDiff, List.replicate_succ, List.replicate_zero, cap, b_raw_both, hJ, hJ2, orV, ix0, ix1, eq_oe, add_31, bothP, bothV, ham, hlt]
        rw [List.append_assoc]
      · rw [decide_eq_true (show y.1 * x.2 ≤ x.1 * y.2 by omega)] at ham
        simp only [b_cons, b_nil, s_asg, s_par, s_sub, s_ret, s_expr, s_ife, s_whl, s_for, s_raise, s_pass, e_cst, e_glb0, e_glb1, e_glb2, e_glb3, e_var, e_tup, e_lst, e_dnew, e_bin, e_neg, e_not, e_and, e_or, e_cmp, e_chn, e_ife, e_idx, e_slc, e_rev, e_call, e_bi, e_isi, e_app, e_get2, e_lam, e_lc, l_nil, l_cons, o_none, o_some, i_seq, i_range, i_zip, bind_ok, bind_err, toF_ok, toF_err, fbind_next, fbind_ret, fbind_err, asB_ok, asI_ok, asB_err, truth_ok, truth_err, set_name, set_tup, set_nil, set_cons, fend_next, fend_ret, fend_err, List.length_cons, List.length_nil, List.length_set, List.map_cons, List.map_nil, List.cons_append, List.nil_append, List.getElem?_cons_zero, List.getElem?_cons_succ, List.set_cons_zero, List.set_cons_succ, if_true, if_false, Bool.false_eq_true, Bool.not_true, Bool.not_false, reduceIte, and_self, Nat.reduceAdd, Nat.reduceLT, Nat.reduceLeDiff, Nat.reduceSub, Nat.reduceEqDiff, List.replicate_succ, List.replicate_zero, cap, b_raw_both, hJ, hJ2, orV, ix0, ix1, eq_oe, add_31, bothP, bothV, ham, hlt]
        rw [List.append_assoc]
theorem law_both_ok {l m : List (Nat × Frac)} (hl : Ch l) (hm : Ch m) : Ans (k + 9) g 28 [chV l, chV m] (bothV (bothP (oddsP l m) (oddsP m l))) S := .of fun S => by
  obtain ⟨J, hJ⟩ := (law_odds_ok (k := k) (g := g) (S := S) l m hl hm).now
  obtain ⟨J2, hJ2⟩ := (law_odds_ok (k := k) (g := g) (S := S ++ J) m l hm hl).now
  refine ⟨J ++ J2, ?_⟩
  rw [C_at (k := k + 6) (np := 2) (nn := 4) (body := b__law_both_odds) rfl rfl]
  cases h1 : oddsP l m with
  | endl i =>
    rw [h1] at hJ
    cases h2 : oddsP m l with
    | endl j =>
      rw [h2] at hJ2
      simp only [b_cons, b_nil, s_asg, s_par, s_sub, s_ret, s_expr, s_ife, s_whl, s_for, s_raise, s_pass, e_cst, e_glb0, e_glb1, e_glb2, e_glb3, e_var, e_tup, e_lst, e_dnew, e_bin, e_neg, e_not, e_and, e_or, e_cmp, e_chn, e_ife, e_idx, e_slc, e_rev, e_call, e_bi, e_isi, e_app, e_get2, e_lam, e_lc, l_nil, l_cons, o_none, o_some, i_seq, i_range, i_zip, bind_ok, bind_err, toF_ok, toF_err, fbind_next, fbind_ret, fbind_err, asB_ok, asI_ok, asB_err, truth_ok, truth_err, set_name, set_tup, set_nil, set_cons, fend_next, fend_ret, fend_err, List.length_cons, List.length_nil, List.length_set, List.map_cons, List.map_nil, List.cons_append, List.nil_append, List.getElem?_cons_zero, List.getElem?_cons_succ, List.set_cons_zero, List.set_cons_succ, if_true, if_false, Bool.false_eq_true, Bool.not_true, Bool.not_false, reduceIte, and_self, Nat.reduceAdd, Nat.reduceLT, Nat.reduceLeDiff, Nat.reduceSub, Nat.reduceEqDiff, List.replicate_succ, List.replicate_zero, cap, b__law_both_odds, hJ, hJ2, orV, ix0, eq_ee, add_21, bothP, bothV]
      rw [List.append_assoc]
    | odds y j =>
      rw [h2] at hJ2
      simp only [b_cons, b_nil, s_asg, s_par, s_sub, s_ret, s_expr, s_ife, s_whl, s_for, s_raise, s_pass, e_cst, e_glb0, e_glb1, e_glb2, e_glb3, e_var, e_tup, e_lst, e_dnew, e_bin, e_neg, e_not, e_and, e_or, e_cmp, e_chn, e_ife, e_idx, e_slc, e_rev, e_call, e_bi, e_isi, e_app, e_get2, e_lam, e_lc, l_nil, l_cons, o_none, o_some, i_seq, i_range, i_zip, bind_ok, bind_err, toF_ok, toF_err, fbind_next, fbind_ret, fbind_err, asB_ok, asI_ok, asB_err, truth_ok, truth_err, set_name, set_tup, set_nil, set_cons, fend_next, fend_ret, fend_err, List.length_cons, List.length_nil, List.length_set, List.map_cons, List.map_nil, List.cons_append, List.nil_append, List.getElem?_cons_zero, List.getElem?_cons_succ, List.set_cons_zero, List.set_cons_succ, if_true, if_false, Bool.false_eq_true, Bool.not_true, Bool.not_false, reduceIte, and_self, Nat.reduceAdd, Nat.reduceLT, Nat.reduceLeDiff, Nat.reduceSub, Nat.reduceEqDiff, List.replicate_succ, List.replicate_zero, cap, b__law_both_odds, hJ, hJ2, orV, ix0, eq_ee, add_21, bothP, bothV]
      rw [List.append_assoc]
  | odds x i =>
    rw [h1] at hJ
    cases h2 : oddsP m l with
    | endl j =>
      rw [h2] at hJ2
      simp only [b_cons, b_nil, s_asg, s_par, s_sub, s_ret, s_expr, s_ife, s_whl, s_for, s_raise, s_pass, e_cst, e_glb0, e_glb1, e_glb2, e_glb3, e_var, e_tup, e_lst, e_dnew, e_bin, e_neg, e_not, e_and, e_or, e_cmp, e_chn, e_ife, e_idx, e_slc, e_rev, e_call, e_bi, e_isi, e_app, e_get2, e_lam, e_lc, l_nil, l_cons, o_none, o_some, i_seq, i_range, i_zip, bind_ok, bind_err, toF_ok, toF_err, fbind_next, fbind_ret, fbind_err, asB_ok, asI_ok, asB_err, truth_ok, truth_err, set_name, set_tup, set_nil, set_cons, fend_next, fend_ret, fend_err, List.length_cons, List.length_nil, List.length_set, List.map_cons, List.map_nil, List.cons_append, List.nil_append, List.getElem?_cons_zero, List.getElem?_cons_succ, List.set_cons_zero, List.set_cons_succ, if_true, if_false, Bool.false_eq_true, Bool.not_true, Bool.not_false, reduceIte, and_self, Nat.reduceAdd, Nat.reduceLT, Nat.reduceLeDiff, Nat.reduceSub, Nat.reduceEqDiff, List.replicate_succ, List.replicate_zero, cap, b__law_both_odds, hJ, hJ2, orV, ix0, eq_ee, eq_oe, add_21, bothP, bothV]
      rw [List.append_assoc]
    | odds y j =>
      rw [h2] at hJ2
      have ham := less_ok (k := k + 5) (g := g) (S := S ++ J ++ J2) x y (odds_sh hl hm h1) (odds_sh hm hl h2)
      by_cases hlt : x.1 * y.2 < y.1 * x.2
      · rw [decide_eq_true hlt] at ham
        simp only [b_cons, b_nil, s_asg, s_par, s_sub, s_ret, s_expr, s_ife, s_whl, s_for, s_raise, s_pass, e_cst, e_glb0, e_glb1, e_glb2, e_glb3, e_var, e_tup, e_lst, e_dnew, e_bin, e_neg, e_not, e_and, e_or, e_cmp, e_chn, e_ife, e_idx, e_slc, e_rev, e_call, e_bi, e_isi, e_app, e_get2, e_lam, e_lc, l_nil, l_cons, o_none, o_some, i_seq, i_range, i_zip, bind_ok, bind_err, toF_ok, toF_err, fbind_next, fbind_ret, fbind_err, asB_ok, asI_ok, asB_err, truth_ok, truth_err, set_name, set_tup, set_nil, set_cons, fend_next, fend_ret, fend_err, List.length_cons, List.length_nil, List.length_set, List.map_cons, List.map_nil, List.cons_append, List.nil_append, List.getElem?_cons_zero, List.getElem?_cons_succ, List.set_cons_zero, List.set_cons_succ, if_true, if_false, Bool.false_eq_true, Bool.not_true, Bool.not_false, reduceIte, and_self, Nat.reduceAdd, Nat.reduceLT, Nat.reduceLeDiff, Nat.reduceSub, Nat.reduceEqDiff, List.replicate_succ, List.replicate_zero, cap, b__law_both_odds, hJ, hJ2, orV, ix0, ix1, eq_oe, add_31, bothP, bothV, ham, hlt]
        rw [List.append_assoc]
      · rw [decide_eq_false hlt] at ham
        simp only [b_cons, b_nil, s_asg, s_par, s_sub, s_ret, s_expr, s_ife, s_whl, s_for, s_raise, s_pass, e_cst, e_glb0, e_glb1, e_glb2, e_glb3, e_var, e_tup, e_lst, e_dnew, e_bin, e_neg, e_not, e_and, e_or, e_cmp, e_chn, e_ife, e_idx, e_slc, e_rev, e_call, e_bi, e_isi, e_app, e_get2, e_lam, e_lc, l_nil, l_cons, o_none, o_some, i_seq, i_range, i_zip, bind_ok, bind_err, toF_ok, toF_err, fbind_next, fbind_ret, fbind_err, asB_ok, asI_ok, asB_err, truth_ok, truth_err, set_name, set_tup, set_nil, set_cons, fend_next, fend_ret, fend_err, List.length_cons, List.length_nil, List.length_set, List.map_cons, List.map_nil, List.cons_append, List.nil_append, List.getElem?_cons_zero, List.getElem?_cons_succ, List.set_cons_zero, List.set_cons_succ, if_true, if_false, Bool.false_eq_true, Bool.not_true, Bool.not_false, reduceIte, and_self, Nat.reduceAdd, Nat.reduceLT, Nat.reduceLeDiff, Nat.reduceSub, Nat.reduceEqDiff, List.replicate_succ, List.replicate_zero, cap, b__law_both_odds, hJ, hJ2, orV, ix0, ix1, eq_oe, add_31, bothP, bothV, ham, hlt]
        rw [List.append_assoc]
theorem odds_both_ok {l m : List (Nat × Int)} (hl : D l) (hm : D m) : Ans (k + 10) g 16 [chV (dl l), chV (dl m)] (bothV (bothP (oddsP (dl l) (dl m)) (oddsP (dl m) (dl l)))) S := .of fun S => by
  obtain ⟨J, hJ⟩ := (check_ok (k := k) (g := g) (S := S) (fun _ => hl.good) (fun _ => hm.good)).now
  obtain ⟨J2, hJ2⟩ := (raw_both_ok (k := k) (g := g) (S := S ++ J) hl.ch hm.ch).now
  refine ⟨J ++ J2, ?_⟩
  rw [C_at (k := k + 7) (np := 2) (nn := 2) (body := b_odds_both) rfl rfl]
  simp only [b_cons, b_nil, s_asg, s_par, s_sub, s_ret, s_expr, s_ife, s_whl, s_for, s_raise, s_pass, e_cst, e_glb0, e_glb1, e_glb2, e_glb3, e_var, e_tup, e_lst, e_dnew, e_bin, e_neg, e_not, e_and, e_or, e_cmp, e_chn, e_ife, e_idx, e_slc, e_rev, e_call, e_bi, e_isi, e_app, e_get2, e_lam, e_lc, l_nil, l_cons, o_none, o_some, i_seq, i_range, i_zip, bind_ok, bind_err, toF_ok, toF_err, fbind_next, fbind_ret, fbind_err, asB_ok, asI_ok, asB_err, truth_ok, truth_err, set_name, set_tup, set_nil, set_cons, fend_next, fend_ret, fend_err, List.length_cons, List.length_nil, List.length_set, List.map_cons, List.map_nil, List.cons_append, List.nil_append, List.getElem?_cons_zero, List.getElem?_cons_succ, List.set_cons_zero, List.set_cons_succ, if_true, if_false, Bool.false_eq_true, Bool.not_true, Bool.not_false, reduceIte, and_self, Nat.reduceAdd, Nat.reduceLT, Nat.reduceLeDiff, Nat.reduceSub, Nat.reduceEqDiff, List.replicate_succ, List.replicate_zero, cap, b_odds_both, hJ, hJ2]
  rw [List.append_assoc]
def withinP : OR × Bool → Frac → Bool
  | (.odds x _, _), f => decide (x.1 * f.2 ≤ f.1 * x.2)
  | (.endl _, _), _ => false
theorem bothP_sh {l m : List (Nat × Frac)} (hl : Ch l) (hm : Ch m) {x : Frac} {i : Nat} {t : Bool} (h : bothP (oddsP l m) (oddsP m l) = (.odds x i, t)) : ShF x := by
  cases h1 : oddsP l m with
  | endl i => rw [h1] at h; exact nomatch h
  | odds x' i' =>
    cases h2 : oddsP m l with
    | endl j => rw [h1, h2] at h; exact nomatch h
    | odds y j =>
      rw [h1, h2] at h
      unfold bothP at h
      simp only [] at h
      split at h
      · injection h with h3 _
        injection h3 with h4 _
        rw [← h4]
        exact odds_sh hm hl h2
      · injection h with h3 _
        injection h3 with h4 _
        rw [← h4]
        exact odds_sh hl hm h1
theorem within_ok {l m : List (Nat × Int)} (hl : D l) (hm : D m) (f : Frac) (hf : Fr f) (hs : ShF f) (hle : f.2 ≤ f.1) : Ans (k + 10) g 18 [chV (dl l), chV (dl m), fV f] (.bl (withinP (bothP (oddsP (dl l) (dl m)) (oddsP (dl m) (dl l))) f)) S := .of fun S => by
  obtain ⟨J, hJ⟩ := (check_ok (k := k) (g := g) (S := S) (fun _ => hl.good) (fun _ => hm.good)).now
  obtain ⟨J2, hJ2⟩ := (raw_both_ok (k := k) (g := g) (S := S ++ J) hl.ch hm.ch).now
  have hfa := is_factor_ok (k := k + 4) (g := g) (S := S ++ J) f hf
  rw [decide_eq_true hle] at hfa
  refine ⟨J ++ J2, ?_⟩
  rw [C_at (k := k + 7) (np := 3) (nn := 4) (body := b_is_within_odds) rfl rfl]
  cases hb : bothP (oddsP (dl l) (dl m)) (oddsP (dl m) (dl l)) with
  | mk o t =>
    rw [hb] at hJ2
    cases o with
    | endl i =>
      simp only [b_cons, b_nil, s_asg, s_par, s_sub, s_ret, s_expr, s_ife, s_whl, s_for, s_raise, s_pass, e_cst, e_glb0, e_glb1, e_glb2, e_glb3, e_var, e_tup, e_lst, e_dnew, e_bin, e_neg, e_not, e_and, e_or, e_cmp, e_chn, e_ife, e_idx, e_slc, e_rev, e_call, e_bi, e_isi, e_app, e_get2, e_lam, e_lc, l_nil, l_cons, o_none, o_some, i_seq, i_range, i_zip, bind_ok, bind_err, toF_ok, toF_err, fbind_next, fbind_ret, fbind_err, asB_ok, asI_ok, asB_err, truth_ok, truth_err, set_name, set_tup, set_nil, set_cons, fend_next, fend_ret, fend_err, List.length_cons, List.length_nil, List.length_set, List.map_cons, List.map_nil, List.cons_append, List.nil_append, List.getElem?_cons_zero, List.getElem?_cons_succ, List.set_cons_zero, List.set_cons_succ, if_true, if_false, Bool.false_eq_true, Bool.not_true, Bool.not_false, reduceIte, and_self, Nat.reduceAdd, Nat.reduceLT, Nat.reduceLeDiff, Nat.reduceSub, Nat.reduceEqDiff, List.replicate_succ, List.replicate_zero, cap, b_is_within_odds, hJ, hfa, hJ2, bothV, ix0, eq_eo, withinP]
      rw [List.append_assoc]
    | odds x i =>
      have ham := raw_at_most_ok (k := k + 6) (g := g) (S := S ++ J ++ J2) x f (bothP_sh hl.ch hm.ch hb) hs
      simp only [b_cons, b_nil, s_asg, s_par, s_sub, s_ret, s_expr, s_ife, s_whl, s_for, s_raise, s_pass, e_cst, e_glb2, e_glb3, e_var, e_tup, e_lst, e_dnew, e_bin, e_neg, e_not, e_and, e_or, e_cmp, e_chn, e_ife, e_idx, e_slc, e_rev, e_call, e_bi, e_isi, e_app, e_get2, e_lam, e_lc, l_nil, l_cons, o_none, o_some, i_seq, i_range, i_zip, bind_ok, bind_err, toF_ok, toF_err, fbind_next, fbind_ret, fbind_err, asB_ok, asI_ok, asB_err, truth_ok, truth_err, set_name, set_tup, set_nil, set_cons, fend_next, fend_ret, fend_err, List.length_cons, List.length_nil, List.length_set, List.map_cons, List.map_nil, List.cons_append, List.nil_append, List.getElem?_cons_zero, List.getElem?_cons_succ, List.set_cons_zero, List.set_cons_succ, if_true, if_false, Bool.false_eq_true, Bool.not_true, Bool.not_false, reduceIte, and_self, Nat.reduceAdd, Nat.reduceLT, Nat.reduceLeDiff, Nat.reduceSub, Nat.reduceEqDiff, List.replicate_succ, List.replicate_zero, cap, b_is_within_odds, hJ, hfa, hJ2, bothV, ix0, ix1, eq_oo, withinP, ham]
      rw [List.append_assoc]
end
end Law
end

section
set_option Elab.async false
set_option linter.all false
set_option autoImplicit false
set_option maxRecDepth 100000
namespace Law
open PySem Ev
/-! orders of fractions -/
def leF (a b : Frac) : Prop := a.1 * b.2 ≤ b.1 * a.2
theorem leF_refl (a : Frac) : leF a a := Int.le_refl _
theorem leF_trans {a b c : Frac} (ha : 0 < a.2) (hb : 0 < b.2) (hc : 0 < c.2) (h1 : leF a b) (h2 : leF b c) : leF a c := by
  unfold leF at *
  have h3 := Int.mul_le_mul_of_nonneg_right h1 (Int.le_of_lt hc)
  have h4 := Int.mul_le_mul_of_nonneg_right h2 (Int.le_of_lt ha)
  have h5 : a.1 * c.2 * b.2 ≤ c.1 * a.2 * b.2 := by
    have e1 : a.1 * b.2 * c.2 = a.1 * c.2 * b.2 := by simp only [Int.mul_assoc, Int.mul_comm, Int.mul_left_comm]
    have e2 : b.1 * a.2 * c.2 = b.1 * c.2 * a.2 := by simp only [Int.mul_assoc, Int.mul_comm, Int.mul_left_comm]
    have e3 : c.1 * b.2 * a.2 = c.1 * a.2 * b.2 := by simp only [Int.mul_assoc, Int.mul_comm, Int.mul_left_comm]
    omega
  exact Int.le_of_mul_le_mul_right h5 hb
theorem rd_le_iff (a b : Int) (x : Frac) (hb : 0 < b) : leF (rd a b) x ↔ a * x.2 ≤ x.1 * b := by
  obtain ⟨g, h1, h2, h3⟩ := rd_parts a b hb
  unfold leF
  generalize (rd a b).1 = c at *
  generalize (rd a b).2 = d at *
  subst h2
  subst h3
  have e1 : g * c * x.2 = g * (c * x.2) := Int.mul_assoc ..
  have e2 : x.1 * (g * d) = g * (x.1 * d) := Int.mul_left_comm ..
  rw [e1, e2]
  exact ⟨fun h => Int.mul_le_mul_of_nonneg_left h (Int.le_of_lt h1), fun h => Int.le_of_mul_le_mul_left h h1⟩
theorem le_rd_iff (a b : Int) (x : Frac) (hb : 0 < b) : leF x (rd a b) ↔ x.1 * b ≤ a * x.2 := by
  obtain ⟨g, h1, h2, h3⟩ := rd_parts a b hb
  unfold leF
  generalize (rd a b).1 = c at *
  generalize (rd a b).2 = d at *
  subst h2
  subst h3
  have e1 : g * c * x.2 = g * (c * x.2) := Int.mul_assoc ..
  have e2 : x.1 * (g * d) = g * (x.1 * d) := Int.mul_left_comm ..
  rw [e1, e2]
  exact ⟨fun h => Int.mul_le_mul_of_nonneg_left h (Int.le_of_lt h1), fun h => Int.le_of_mul_le_mul_left h h1⟩
theorem ov_rd (w s w' s' : Int) (hw : 0 < w') (hs : 0 < s) (hs' : 0 < s') : ovF (rd w s) (rd w' s') = rd (w * s') (s * w') := by
  have c1 := rd_cross w s hs
  have c2 := rd_cross w' s' hs'
  have p1 := rd_pos w s hs
  have p2 := rd_num_pos hw hs'
  refine rd_eq (Int.mul_pos p1 p2) (Int.mul_pos hs hw) ?_
  generalize (rd w s).1 = a at *
  generalize (rd w s).2 = b at *
  generalize (rd w' s').1 = c at *
  generalize (rd w' s').2 = d at *
  have e1 : a * d * (s * w') = (a * s) * (w' * d) := by simp only [Int.mul_assoc, Int.mul_comm, Int.mul_left_comm]
  have e2 : w * s' * (b * c) = (w * b) * (c * s') := by simp only [Int.mul_assoc, Int.mul_comm, Int.mul_left_comm]
  rw [e1, e2, c1, c2]
/-! the greatest odds are above all -/
theorem leF_total (a b : Frac) : leF a b ∨ leF b a := by
  unfold leF
  omega
theorem goO_max (m : List (Nat × Frac)) (hm : ∀ p ∈ m, Sm p.2) : ∀ (r : List (Nat × Frac)) (best : Option (Frac × Nat)), (∀ p ∈ r, Sm p.2) → BestOk best → ∀ x i, goO m r best = .odds x i →
    (∀ p ∈ r, ∃ d, get m p.1 = some d ∧ leF (ovF p.2 d) x) ∧ ∀ b j, best = some (b, j) → leF b x
  | [], none, _, _, _, _, h => nomatch h
  | [], some (b, j), _, hb, x, i, h => by
    injection h with h1 h2
    subst h1
    refine ⟨(fun _ h => nomatch h), fun b' j' h' => ?_⟩
    injection h' with h'
    injection h' with h' _
    rw [h']
    exact leF_refl _
  | p :: r, best, hr, hb, x, i, h => by
    unfold goO at h
    cases hg : get m p.1 with
    | none => rw [hg] at h; exact nomatch h
    | some d =>
      rw [hg] at h
      have hp := hr p (List.mem_cons_self ..)
      have hd := hm _ (get_mem hg)
      have hov := ov_ShF hp hd
      have hb2 := stepO_ok (i := p.1) hb hov
      have hr' : ∀ p ∈ r, Sm p.2 := fun p' h' => hr p' (List.mem_cons_of_mem _ h')
      obtain ⟨h1, h2⟩ := goO_max m hm r _ hr' hb2 x i h
      have hx := goO_sh m hm r _ hr' hb2 x i h
      have h3 := h2 _ _ rfl
      have hs1 : leF (ovF p.2 d) (stepO best (ovF p.2 d) p.1).1 := by
        cases best with
        | none => exact leF_refl _
        | some bj =>
          obtain ⟨b, j⟩ := bj
          unfold stepO
          simp only []
          split
          · exact leF_refl _
          · unfold leF
            simp only []
            omega
      have hs2 : ∀ b j, best = some (b, j) → leF b (stepO best (ovF p.2 d) p.1).1 := by
        intro b j hbj
        subst hbj
        unfold stepO
        simp only []
        split
        · unfold leF
          simp only []
          omega
        · exact leF_refl _
      have hb3 : ShF (stepO best (ovF p.2 d) p.1).1 := hb2
      refine ⟨fun p' h' => ?_, fun b j hbj => ?_⟩
      · rcases List.mem_cons.mp h' with rfl | h''
        · exact ⟨d, hg, leF_trans hov.2.2 hb3.2.2 hx.2.2 hs1 h3⟩
        · exact h1 p' h''
      · subst hbj
        exact leF_trans (show ShF b from hb).2.2 hb3.2.2 hx.2.2 (hs2 b j rfl) h3
/-! weights of lots -/
def wt (iw : List (Nat × Int)) (i : Nat) : Int := (get iw i).getD 0
def sumW (iw : List (Nat × Int)) (ks : List Nat) : Int := (ks.map (wt iw)).sum
theorem sumW_cons (iw : List (Nat × Int)) (i : Nat) (ks : List Nat) : sumW iw (i :: ks) = wt iw i + sumW iw ks := rfl
theorem get_cons {α : Type} (p : Nat × α) (l : List (Nat × α)) (i : Nat) : get (p :: l) i = if p.1 = i then some p.2 else get l i := by
  unfold get
  rw [List.find?_cons]
  by_cases h : p.1 = i
  · have : (p.1 == i) = true := by simpa using h
    rw [this, if_pos h]
    rfl
  · have : (p.1 == i) = false := by simpa using h
    rw [this, if_neg h]
theorem get_sh (s : Int) : ∀ (iw : List (Nat × Int)) (i : Nat), get (iw.map (sh s)) i = (get iw i).map fun w => rd w s
  | [], _ => rfl
  | p :: l, i => by
    rw [List.map_cons, get_cons, get_cons, get_sh s l i]
    show (if p.1 = i then _ else _) = _
    by_cases h : p.1 = i
    · rw [if_pos h, if_pos h]
      rfl
    · rw [if_neg h, if_neg h]
theorem get_of_mem {α : Type} : ∀ {l : List (Nat × α)}, (l.map (·.1)).Nodup → ∀ p ∈ l, get l p.1 = some p.2
  | [], _, _, h => nomatch h
  | q :: l, hn, p, h => by
    rw [get_cons]
    rw [List.map_cons, List.nodup_cons] at hn
    rcases List.mem_cons.mp h with rfl | h'
    · rw [if_pos rfl]
    · have : q.1 ≠ p.1 := fun he => hn.1 (he ▸ List.mem_map.mpr ⟨p, h', rfl⟩)
      rw [if_neg this]
      exact get_of_mem hn.2 p h'
theorem wt_cons (p : Nat × Int) (l : List (Nat × Int)) (i : Nat) : wt (p :: l) i = if p.1 = i then p.2 else wt l i := by
  unfold wt
  rw [get_cons]
  split <;> rfl
theorem wt_nonneg {iw : List (Nat × Int)} (h : ∀ p ∈ iw, 0 < p.2) (i : Nat) : 0 ≤ wt iw i := by
  unfold wt
  cases hg : get iw i with
  | none => exact Int.le_refl _
  | some w => exact Int.le_of_lt (h _ (get_mem hg))
theorem sumW_nonneg {iw : List (Nat × Int)} (h : ∀ p ∈ iw, 0 < p.2) : ∀ ks : List Nat, 0 ≤ sumW iw ks
  | [] => Int.le_refl _
  | i :: ks => by
    have h1 := wt_nonneg h i
    have h2 := sumW_nonneg h ks
    rw [sumW_cons]
    omega
theorem sumW_skip (p : Nat × Int) (l : List (Nat × Int)) : ∀ ks : List Nat, p.1 ∉ ks → sumW (p :: l) ks = sumW l ks
  | [], _ => rfl
  | i :: ks, h => by
    have hne : p.1 ≠ i := fun he => h (by rw [he]; exact List.mem_cons_self ..)
    rw [sumW_cons, sumW_cons, wt_cons, if_neg hne, sumW_skip p l ks (fun h' => h (List.mem_cons_of_mem _ h'))]
theorem sumW_self : ∀ {l : List (Nat × Int)}, (l.map (·.1)).Nodup → sumW l (l.map (·.1)) = tot l
  | [], _ => rfl
  | p :: l, hn => by
    rw [List.map_cons, List.nodup_cons] at hn
    rw [List.map_cons, sumW_cons, wt_cons, if_pos rfl, sumW_skip p l _ hn.1, sumW_self hn.2, tot_cons]
theorem sumW_head {p : Nat × Int} {l : List (Nat × Int)} (hp : 0 < p.2) (hl : ∀ p ∈ l, 0 < p.2) : ∀ {ks : List Nat}, ks.Nodup → sumW (p :: l) ks ≤ p.2 + sumW l ks
  | [], _ => by
    show (0 : Int) ≤ p.2 + 0
    omega
  | i :: ks, hn => by
    rw [List.nodup_cons] at hn
    rw [sumW_cons, sumW_cons, wt_cons]
    have h1 := wt_nonneg hl i
    by_cases h : p.1 = i
    · rw [if_pos h, sumW_skip p l ks (h ▸ hn.1)]
      omega
    · have h2 := sumW_head hp hl hn.2
      rw [if_neg h]
      omega
theorem sumW_le : ∀ {l : List (Nat × Int)}, (∀ p ∈ l, 0 < p.2) → ∀ {ks : List Nat}, ks.Nodup → sumW l ks ≤ tot l
  | [], _, ks, _ => by
    have : ∀ ks : List Nat, sumW [] ks = 0 := by
      intro ks
      induction ks with
      | nil => rfl
      | cons i ks ih => rw [sumW_cons, ih]; rfl
    rw [this]
    exact Int.le_refl _
  | p :: l, h, ks, hn => by
    have hl : ∀ p ∈ l, 0 < p.2 := fun p' h' => h p' (List.mem_cons_of_mem _ h')
    have h1 := sumW_head (h p (List.mem_cons_self ..)) hl hn
    have h2 := sumW_le hl hn
    rw [tot_cons]
    omega
theorem D.wpos {iw : List (Nat × Int)} (h : D iw) : ∀ p ∈ iw, 0 < p.2 := fun p hp => (h.w p hp).1
theorem D.nodup {iw : List (Nat × Int)} (h : D iw) : (iw.map (·.1)).Nodup := up_nodup h.outs.up
section
variable {l m : List (Nat × Int)} {x : Frac} {j : Nat}
theorem each_le (hl : D l) (hm : D m) (h : oddsP (dl l) (dl m) = .odds x j) : ∀ i ∈ l.map (·.1), wt l i * tot m * x.2 ≤ x.1 * (tot l * wt m i) := by
  intro i hi
  obtain ⟨p, hp, rfl⟩ := List.mem_map.mp hi
  obtain ⟨d, h1, h2⟩ := (goO_max (dl m) hm.ch.sm (dl l) none hl.ch.sm trivial x j h).1 (sh (tot l) p) (List.mem_map.mpr ⟨p, hp, rfl⟩)
  have hg : get l p.1 = some p.2 := get_of_mem hl.nodup p hp
  have h3 : get (dl m) p.1 = some d := h1
  rw [show get (dl m) p.1 = _ from get_sh (tot m) m p.1] at h3
  rw [Option.map_eq_some_iff] at h3
  obtain ⟨w', h4, h5⟩ := h3
  have hw' := hm.wpos _ (get_mem h4)
  have hw1 : wt l p.1 = p.2 := by unfold wt; rw [hg]; rfl
  have hw2 : wt m p.1 = w' := by unfold wt; rw [h4]; rfl
  rw [hw1, hw2]
  rw [← h5, show ovF (sh (tot l) p).2 (rd w' (tot m)) = _ from ov_rd p.2 (tot l) w' (tot m) hw' hl.pos hm.pos] at h2
  exact (rd_le_iff _ _ x (Int.mul_pos hl.pos hw')).mp h2
theorem lot_le (hl : D l) (hm : D m) (h : oddsP (dl l) (dl m) = .odds x j) : ∀ ks : List Nat, (∀ i ∈ ks, i ∈ l.map (·.1)) → sumW l ks * tot m * x.2 ≤ x.1 * (tot l * sumW m ks)
  | [], _ => by
    show 0 * tot m * x.2 ≤ x.1 * (tot l * 0)
    rw [Int.zero_mul, Int.zero_mul, Int.mul_zero, Int.mul_zero]
    exact Int.le_refl _
  | i :: ks, hk => by
    have h1 := each_le hl hm h i (hk i (List.mem_cons_self ..))
    have h2 := lot_le hl hm h ks fun i' h' => hk i' (List.mem_cons_of_mem _ h')
    rw [sumW_cons, sumW_cons, Int.add_mul, Int.add_mul, Int.mul_add, Int.mul_add]
    omega
theorem odds_ge (hl : D l) (hm : D m) (h : oddsP (dl l) (dl m) = .odds x j) : x.2 ≤ x.1 := by
  have h1 := lot_le hl hm h (l.map (·.1)) fun _ h => h
  rw [sumW_self hl.nodup] at h1
  have h2 := sumW_le hm.wpos hl.nodup
  have h3 := sumW_nonneg hm.wpos (l.map (·.1))
  generalize sumW m (l.map (·.1)) = A at *
  have hx := (odds_sh hl.ch hm.ch h).2.2
  have pl := hl.pos
  have pm := hm.pos
  generalize tot l = s at *
  generalize tot m = s' at *
  have hpos : 0 < s * s' * x.2 := Int.mul_pos (Int.mul_pos pl pm) hx
  have hx1 : 0 < x.1 := by
    refine Int.lt_of_not_ge fun hn => ?_
    have : x.1 * (s * A) ≤ 0 := Int.mul_nonpos_of_nonpos_of_nonneg hn (Int.mul_nonneg (Int.le_of_lt pl) h3)
    omega
  have h4 : x.1 * (s * A) ≤ x.1 * (s * s') := Int.mul_le_mul_of_nonneg_left (Int.mul_le_mul_of_nonneg_left h2 (Int.le_of_lt pl)) (Int.le_of_lt hx1)
  have h5 : s * s' * x.2 ≤ s * s' * x.1 := by
    have : x.1 * (s * s') = s * s' * x.1 := Int.mul_comm ..
    omega
  exact Int.le_of_mul_le_mul_left h5 (Int.mul_pos pl pm)
theorem odds_Fr {l m : List (Nat × Frac)} (hl : Ch l) (hm : Ch m) : ∀ (r : List (Nat × Frac)) (best : Option (Frac × Nat)), (∀ p ∈ r, Sm p.2) → (∀ b j, best = some (b, j) → ∃ a b', b = rd a b' ∧ 0 < b' ∧ a.natAbs ≤ 10 ^ 62 ∧ b'.natAbs ≤ 10 ^ 62) → ∀ x i, goO m r best = .odds x i → ∃ a b', x = rd a b' ∧ 0 < b' ∧ a.natAbs ≤ 10 ^ 62 ∧ b'.natAbs ≤ 10 ^ 62
  | [], none, _, _, _, _, h => nomatch h
  | [], some (b, j), _, hb, x, i, h => by
    injection h with h1 h2
    rw [← h1]
    exact hb b j rfl
  | p :: r, best, hr, hb, x, i, h => by
    unfold goO at h
    cases hg : get m p.1 with
    | none => rw [hg] at h; exact nomatch h
    | some d =>
      rw [hg] at h
      have hp := hr p (List.mem_cons_self ..)
      have hd := hm.sm _ (get_mem hg)
      have hov : ∃ a b', ovF p.2 d = rd a b' ∧ 0 < b' ∧ a.natAbs ≤ 10 ^ 62 ∧ b'.natAbs ≤ 10 ^ 62 := ⟨_, _, rfl, Int.mul_pos hp.2.2.1 hd.1, mul_62 hp.2.1 hd.2.2.2, mul_62 hp.2.2.2 hd.2.1⟩
      refine odds_Fr hl hm r _ (fun p' h' => hr p' (List.mem_cons_of_mem _ h')) (fun b j hbj => ?_) x i h
      injection hbj with hbj
      cases best with
      | none =>
        injection hbj with h1 _
        rw [← h1]
        exact hov
      | some bj =>
        obtain ⟨b0, j0⟩ := bj
        unfold stepO at hbj
        simp only [] at hbj
        split at hbj
        · injection hbj with h1 _
          rw [← h1]
          exact hov
        · injection hbj with h1 _
          rw [← h1]
          exact hb b0 j0 rfl
theorem odds_rd {l m : List (Nat × Frac)} (hl : Ch l) (hm : Ch m) (h : oddsP l m = .odds x j) : ∃ a b, x = rd a b ∧ 0 < b ∧ a.natAbs ≤ 10 ^ 62 ∧ b.natAbs ≤ 10 ^ 62 := odds_Fr hl hm l none hl.sm (fun _ _ h => nomatch h) x j h
end
end Law
end

section
set_option Elab.async false
set_option linter.all false
set_option autoImplicit false
set_option maxRecDepth 100000
namespace Law
open PySem Ev
section
variable {k : Nat} {g : Bool} {S : Store} {q : Ev.Ctx} {e : Ev.Env}
def lotV (ks : List Nat) : Val := .tup (ks.map oV)
theorem nil_of_map {α : Type} {f : α → Val} {r : List α} (h : [] = r.map f) : r = [] := List.map_eq_nil_iff.mp h.symm
theorem sumW_le31 {iw : List (Nat × Int)} (h : D iw) {ks : List Nat} (hk : ks.Nodup) : sumW iw ks ≤ 10 ^ 31 := by
  have h1 := sumW_le h.wpos hk
  have h2 := h.few31
  omega
theorem lot_ok {iw : List (Nat × Int)} (h : D iw) {ks : List Nat} (hk : Outs ks) : Ans (k + 10) g 17 [chV (dl iw), lotV ks] (fV (rd (sumW iw ks) (tot iw))) S := .of fun S => by
  obtain ⟨J, hJ⟩ := (check_ok (k := k) (g := g) (S := S) (fun _ => h.good) (fun _ => h.good)).now
  have hou := are_outs_ok (k := k + 4) (g := g) (S := S ++ J) ks hk.lt hk.few
  rw [adj_up hk.up] at hou
  obtain ⟨J2, hJ2⟩ := hou.now
  have hd := dict_ok (S := S ++ J ++ J2) (dl iw) h.ch.outs g
  generalize hS1 : S ++ J ++ J2 ++ [.dic (dicOf fV (dl iw))] = S1 at hd
  have hS1d : S1[(S ++ J ++ J2).length]? = some (.dic (dicOf fV (dl iw))) := by rw [← hS1]; exact app_last
  have hs := h.pos
  have hs31 := h.few31
  have hsum := sumW_le31 h (up_nodup hk.up)
  have g0 : ∀ (q : Ev.Ctx) (e : Ev.Env) (S : Store), evE G LT (.glb 0) q e S = .ok (fV (0, 1)) S := fun _ _ _ => rfl
  have hr := for_run (q := ⟨CC (k + 9) g, CC (k + 7) false, g⟩) (t := .name 2) (b := .cons (.asg (.name 4) (.call 6 (.cons (.var 4) (.cons (.get2 (.var 3) (.var 2) (.glb 0)) .nil)))) .nil) (src := .tup (ks.map oV)) (S := S1) (e := [some (chV (dl iw)), some (lotV ks), none, some (.obj (S ++ J ++ J2).length), some (fV (rd 0 (tot iw)))]) (ks.map oV)
    (fun rest e S' => ∃ J3 r x2 A, S' = S1 ++ J3 ∧ rest = r.map oV ∧ e = [some (chV (dl iw)), some (lotV ks), x2, some (.obj (S ++ J ++ J2).length), some (fV (rd A (tot iw)))] ∧ 0 ≤ A ∧ A + sumW iw r = sumW iw ks ∧ ∀ i ∈ r, i ∈ ks) (fun _ _ => False) rfl (fun _ _ _ _ _ => rfl)
    (fun v rest e S' ⟨J3, r, x2, A, a, b, c, hA, d, m⟩ => by
      cases r with
      | nil => exact absurd b (by simp)
      | cons i r =>
        rw [List.map_cons] at b
        injection b with b1 b2
        have hi := hk.lt i (m i (List.mem_cons_self ..))
        have hw := wt_nonneg h.wpos i
        have hrn := sumW_nonneg h.wpos r
        rw [sumW_cons] at d
        have hdic : S'[(S ++ J ++ J2).length]? = some (.dic (dicOf fV (dl iw))) := by rw [a]; exact app_get hS1d
        have hg2 := get2_dic (S := S') (x := (0, 1)) hdic hi h.ch.lt
        have hgd : (get (dl iw) i).getD (0, 1) = rd (wt iw i) (tot iw) := by
          rw [show get (dl iw) i = _ from get_sh (tot iw) iw i]
          unfold wt
          cases get iw i with
          | none => exact (rd_nought hs).symm
          | some w => rfl
        rw [hgd] at hg2
        have z31 : (10 : Nat) ^ 31 ≤ 10 ^ 62 := by decide
        have w1 : A.natAbs ≤ 10 ^ 62 := Nat.le_trans (by omega) z31
        have w2 : (tot iw).natAbs ≤ 10 ^ 62 := Nat.le_trans (by omega) z31
        have w3 : (wt iw i).natAbs ≤ 10 ^ 62 := Nat.le_trans (by omega) z31
        have hp := raw_plus_ok (k := k + 2) (g := g) (S := S') (rd A (tot iw)) (rd (wt iw i) (tot iw)) (rd_ShF hs w1 w2) (rd_ShF hs w3 w2)
        rw [show rd ((rd A (tot iw)).1 * (rd (wt iw i) (tot iw)).2 + (rd (wt iw i) (tot iw)).1 * (rd A (tot iw)).2) ((rd A (tot iw)).2 * (rd (wt iw i) (tot iw)).2) = rd (A + wt iw i) (tot iw) from plus_rd A _ _ hs] at hp
        subst c
        refine ⟨[some (chV (dl iw)), some (lotV ks), some (oV i), some (.obj (S ++ J ++ J2).length), some (fV (rd A (tot iw)))], by rw [b1]; rfl, .inl ⟨[some (chV (dl iw)), some (lotV ks), some (oV i), some (.obj (S ++ J ++ J2).length), some (fV (rd (A + wt iw i) (tot iw)))], S', ?_, J3, r, _, A + wt iw i, a, b2, rfl, by omega, by omega, fun y hy => m y (List.mem_cons_of_mem _ hy)⟩⟩
        simp only [b_cons, b_nil, s_asg, s_par, s_sub, s_ret, s_expr, s_ife, s_whl, s_for, s_raise, s_pass, e_cst, e_glb2, e_glb3, e_var, e_tup, e_lst, e_dnew, e_bin, e_neg, e_not, e_and, e_or, e_cmp, e_chn, e_ife, e_idx, e_slc, e_rev, e_call, e_bi, e_isi, e_app, e_get2, e_lam, e_lc, l_nil, l_cons, o_none, o_some, i_seq, i_range, i_zip, bind_ok, bind_err, toF_ok, toF_err, fbind_next, fbind_ret, fbind_err, asB_ok, asI_ok, asB_err, truth_ok, truth_err, set_name, set_tup, set_nil, set_cons, fend_next, fend_ret, fend_err, List.length_cons, List.length_nil, List.length_set, List.map_cons, List.map_nil, List.cons_append, List.nil_append, List.getElem?_cons_zero, List.getElem?_cons_succ, List.set_cons_zero, List.set_cons_succ, if_true, if_false, Bool.false_eq_true, Bool.not_true, Bool.not_false, reduceIte, and_self, Nat.reduceAdd, Nat.reduceLT, Nat.reduceLeDiff, Nat.reduceSub, Nat.reduceEqDiff, List.replicate_succ, List.replicate_zero, cap, g0, isDic_ok hdic, hg2, hp])
    ⟨[], ks, none, 0, by simp, rfl, rfl, by decide, by simp, fun _ h => h⟩
  rcases hr with ⟨e', S', h1, J3, r, x2, A, a, b, c, hA, d, m⟩ | ⟨_, _, _, h⟩
  · have hr0 := nil_of_map b
    subst hr0
    have hA2 : A = sumW iw ks := by
      have : sumW iw [] = 0 := rfl
      omega
    subst hA2
    subst a
    subst c
    refine ⟨J ++ J2 ++ [.dic (dicOf fV (dl iw))] ++ J3, ?_⟩
    rw [C_at (k := k + 7) (np := 2) (nn := 5) (body := b_lot_chance) rfl rfl]
    rw [rd_nought hs] at h1
    have htg : tgOk (.tup (ks.map oV)) (.name 2) = true := rfl
    have hsq : ∀ S, seqop (lotV ks) S = .ok (.tup (ks.map oV)) S := fun _ => rfl
    have hJ2' : CC (k + 7 + 2) g 10 [lotV ks] (S ++ J) = .ok (.bl true) (S ++ J ++ J2) := hJ2
    simp only [b_cons, b_nil, s_asg, s_par, s_sub, s_ret, s_expr, s_ife, s_whl, s_for, s_raise, s_pass, e_cst, e_glb2, e_glb3, e_var, e_tup, e_lst, e_dnew, e_bin, e_neg, e_not, e_and, e_or, e_cmp, e_chn, e_ife, e_idx, e_slc, e_rev, e_call, e_bi, e_isi, e_app, e_get2, e_lam, e_lc, l_nil, l_cons, o_none, o_some, i_seq, i_range, i_zip, bind_ok, bind_err, toF_ok, toF_err, fbind_next, fbind_ret, fbind_err, asB_ok, asI_ok, asB_err, truth_ok, truth_err, set_name, set_tup, set_nil, set_cons, fend_next, fend_ret, fend_err, List.length_cons, List.length_nil, List.length_set, List.map_cons, List.map_nil, List.cons_append, List.nil_append, List.getElem?_cons_zero, List.getElem?_cons_succ, List.set_cons_zero, List.set_cons_succ, if_true, if_false, Bool.false_eq_true, Bool.not_true, Bool.not_false, reduceIte, and_self, Nat.reduceAdd, Nat.reduceLT, Nat.reduceLeDiff, Nat.reduceSub, Nat.reduceEqDiff, List.replicate_succ, List.replicate_zero, cap, b_lot_chance, g0, hJ, hJ2', hd, hsq, htg, Bool.true_eq_false, h1]
    rw [← hS1]
    simp only [List.append_assoc, List.cons_append, List.nil_append]
  · exact h.elim
/-! lots are right -/
theorem less_no {l m : List (Nat × Int)} {x : Frac} {j : Nat} (hl : D l) (hm : D m) (h : oddsP (dl l) (dl m) = .odds x j) (ks : List Nat) (hk : ∀ i ∈ ks, i ∈ l.map (·.1)) :
    ¬ (rd ((rd (sumW m ks) (tot m)).1 * x.1) ((rd (sumW m ks) (tot m)).2 * x.2)).1 * (rd (sumW l ks) (tot l)).2 < (rd (sumW l ks) (tot l)).1 * (rd ((rd (sumW m ks) (tot m)).1 * x.1) ((rd (sumW m ks) (tot m)).2 * x.2)).2 := by
  have hx := (odds_sh hl.ch hm.ch h).2.2
  have h1 := lot_le hl hm h ks hk
  have pl := hl.pos
  have pm := hm.pos
  have c := rd_cross (sumW m ks) (tot m) pm
  have p := rd_pos (sumW m ks) (tot m) pm
  generalize sumW l ks = A at *
  generalize (rd (sumW m ks) (tot m)).1 = a at *
  generalize (rd (sumW m ks) (tot m)).2 = b at *
  generalize sumW m ks = A' at *
  generalize tot l = s at *
  generalize tot m = s' at *
  have hle : leF (rd A s) (rd (a * x.1) (b * x.2)) := by
    have hbx := Int.mul_pos p hx
    rw [rd_le_iff _ _ _ pl, show A * (rd (a * x.1) (b * x.2)).2 ≤ (rd (a * x.1) (b * x.2)).1 * s ↔ leF (A, s) (rd (a * x.1) (b * x.2)) from Iff.rfl, le_rd_iff _ _ _ hbx]
    show A * (b * x.2) ≤ a * x.1 * s
    have e1 : A * (b * x.2) * s' = A * s' * x.2 * b := by simp only [Int.mul_assoc, Int.mul_comm, Int.mul_left_comm]
    have e2 : a * x.1 * s * s' = x.1 * (s * A') * b := by
      have : a * x.1 * s * s' = a * s' * (x.1 * s) := by simp only [Int.mul_assoc, Int.mul_comm, Int.mul_left_comm]
      rw [this, c]
      simp only [Int.mul_assoc, Int.mul_comm, Int.mul_left_comm]
    have h3 := Int.mul_le_mul_of_nonneg_right h1 (Int.le_of_lt p)
    exact Int.le_of_mul_le_mul_right (by omega) pm
  unfold leF at hle
  omega
theorem rd_le2 {a b : Int} (hb : 0 < b) {n : Nat} (h1 : a.natAbs ≤ n) (h2 : b.natAbs ≤ n) : (rd a b).1.natAbs ≤ n ∧ (rd a b).2.natAbs ≤ n := ⟨Nat.le_trans (rd_le a b hb).1 h1, Nat.le_trans (rd_le a b hb).2 h2⟩
theorem slc_t5 (vs : List Val) : slcop (.tup vs) none (some 5) S = .ok (.tup (vs.take 5)) S := slc_th vs 5
theorem add_tt {xs : List Val} {v : Val} (h : xs.length + 1 ≤ cap) : binop .add (.tup xs) (.tup [v]) S = .ok (.tup (xs ++ [v])) S := by
  show (if xs.length + [v].length ≤ cap then R.ok (Val.tup (xs ++ [v])) S else .stuck) = _
  rw [if_pos (show xs.length + [v].length ≤ cap from h)]
theorem add_oo {a b : Nat} {xs ys : List Val} (h1 : S[a]? = some (.lst xs)) (h2 : S[b]? = some (.lst ys)) (h : xs.length + ys.length ≤ cap) : binop .add (.obj a) (.obj b) S = .ok (.obj S.length) (S ++ [.lst (xs ++ ys)]) := by
  show (match S[a]?, S[b]? with
    | some (.lst xs), some (.lst ys) => if xs.length + ys.length ≤ cap then alloc (.lst (xs ++ ys)) S else .stuck
    | _, _ => .stuck) = _
  rw [h1, h2]
  show (if xs.length + ys.length ≤ cap then alloc (.lst (xs ++ ys)) S else .stuck) = _
  rw [if_pos h]
  rfl
def lotsLoop1 : IB := (.cons (.asg (.name 4) (.bin .add (.var 4) (.lc [5] (.bin .add (.var 5) (.tup (.cons (.var 6) .nil))) (.name 5) (.seq (.var 4)) .none))) .nil)
def lotsLoop2 : IB := (.cons (.ife (.call 26 (.cons (.call 24 (.cons (.call 17 (.cons (.var 2) (.cons (.var 5) .nil))) (.cons (.var 3) .nil))) (.cons (.call 17 (.cons (.var 1) (.cons (.var 5) .nil))) .nil))) (.cons (.ret (.cst (.bl false))) .nil) .nil) .nil)
def lotsBody : IB := (.cons (.asg (.name 4) (.lst (.cons (.tup .nil) .nil))) (.cons (.for (.tup (.cons (.name 6) (.cons (.name 7) .nil))) (.seq (.slc (.var 1) .none (.some (.cst (.int 5))))) lotsLoop1) (.cons (.for (.name 5) (.seq (.var 4)) lotsLoop2) (.cons (.ret (.cst (.bl true))) .nil))))
theorem lotsBody_is : b__law_are_lots_right = lotsBody := rfl
/-- lots of the outs so far -/
structure LotOk (ones : List Nat) (left : List Nat) (ks : List Nat) : Prop where
  mem : ∀ i ∈ ks, i ∈ ones
  up : ks.Pairwise (· < ·)
  below : ∀ i ∈ ks, ∀ j ∈ left, i < j
  few : ks.length + left.length ≤ 5
theorem lots1 (h0 ov xv : Val) (l : List (Nat × Frac)) (hl : Outs (l.map (·.1))) :
    ∃ (J : Store) (n : Nat) (L : List (List Nat)) (x5 x6 x7 : Option Val), FLp ⟨CC (k + 10) g, CC (k + 8) false, g⟩ (.tup (.cons (.name 6) (.cons (.name 7) .nil))) lotsLoop1 (.tup ((l.take 5).map prV)) ((Src.tup ((l.take 5).map prV)).len (S ++ [.lst [.tup []]]) + 1) 0 [some h0, some (chV l), some ov, some xv, some (.obj S.length), none, none, none] (S ++ [.lst [.tup []]]) = .next [some h0, some (chV l), some ov, some xv, some (.obj n), x5, x6, x7] (S ++ J) ∧ (S ++ J)[n]? = some (.lst (L.map lotV)) ∧ L.length ≤ 32 ∧ ∀ ks ∈ L, LotOk (l.map (·.1)) [] ks := by
  have hr := for_run (q := ⟨CC (k + 10) g, CC (k + 8) false, g⟩) (t := .tup (.cons (.name 6) (.cons (.name 7) .nil))) (b := lotsLoop1) (src := .tup ((l.take 5).map prV)) (S := S ++ [.lst [.tup []]]) (e := [some h0, some (chV l), some ov, some xv, some (.obj S.length), none, none, none]) ((l.take 5).map prV)
    (fun rest e S' => ∃ (J : Store) (n : Nat) (L : List (List Nat)) (r : List (Nat × Frac)) (x5 x6 x7 : Option Val), S' = S ++ J ∧ rest = r.map prV ∧ e = [some h0, some (chV l), some ov, some xv, some (.obj n), x5, x6, x7] ∧ S'[n]? = some (.lst (L.map lotV)) ∧ L.length * 2 ^ r.length ≤ 32 ∧ (r.map (·.1)).Pairwise (· < ·) ∧ (∀ p ∈ r, p.1 ∈ l.map (·.1)) ∧ ∀ ks ∈ L, LotOk (l.map (·.1)) (r.map (·.1)) ks) (fun _ _ => False) rfl (fun _ _ _ _ _ => rfl)
    (fun v rest e S' ⟨J, n, L, r, x5, x6, x7, a, b, c, hn, hL, hup, hin, hok⟩ => by
      cases r with
      | nil => exact absurd b (by simp)
      | cons p r =>
        rw [List.map_cons] at b
        injection b with b1 b2
        have hLen : L.length ≤ 32 := Nat.le_trans (Nat.le_mul_of_pos_right _ (Nat.pow_pos (by decide))) hL
        rw [List.map_cons, List.pairwise_cons] at hup
        obtain ⟨J2, hJ2⟩ := lc_map (q := ⟨CC (k + 10) g, CC (k + 8) false, g⟩) (S := S') (e := [some h0, some (chV l), some ov, some xv, some (.obj n), x5, some (oV p.1), some (fV p.2)]) (own := [5]) (elt := .bin .add (.var 5) (.tup (.cons (.var 6) .nil))) (tg := .name 5) (src := .lst n) L lotV (fun ks => lotV (ks ++ [p.1])) rfl
          (by rw [len_lst hn, List.length_map]) (by unfold cap; omega) (fun J n' => at_lst (app_get hn) n')
          (fun ks hks J => by
            refine ⟨[some h0, some (chV l), some ov, some xv, some (.obj n), some (lotV ks), some (oV p.1), some (fV p.2)], J, rfl, ?_⟩
            have hf := (hok ks hks).few
            have ha : ∀ S, binop .add (lotV ks) (.tup [oV p.1]) S = .ok (lotV (ks ++ [p.1])) S := fun S => by
              unfold lotV
              rw [add_tt (by rw [List.length_map]; unfold cap; omega), List.map_append]
              rfl
            simp only [b_cons, b_nil, s_asg, s_par, s_sub, s_ret, s_expr, s_ife, s_whl, s_for, s_raise, s_pass, e_cst, e_glb0, e_glb1, e_glb2, e_glb3, e_var, e_tup, e_lst, e_dnew, e_bin, e_neg, e_not, e_and, e_or, e_cmp, e_chn, e_ife, e_idx, e_slc, e_rev, e_call, e_bi, e_isi, e_app, e_get2, e_lam, e_lc, l_nil, l_cons, o_none, o_some, i_seq, i_range, i_zip, bind_ok, bind_err, toF_ok, toF_err, fbind_next, fbind_ret, fbind_err, asB_ok, asI_ok, asB_err, truth_ok, truth_err, set_name, set_tup, set_nil, set_cons, fend_next, fend_ret, fend_err, List.length_cons, List.length_nil, List.length_set, List.map_cons, List.map_nil, List.cons_append, List.nil_append, List.getElem?_cons_zero, List.getElem?_cons_succ, List.set_cons_zero, List.set_cons_succ, if_true, if_false, Bool.false_eq_true, Bool.not_true, Bool.not_false, reduceIte, and_self, Nat.reduceAdd, Nat.reduceLT, Nat.reduceLeDiff, Nat.reduceSub, Nat.reduceEqDiff, List.replicate_succ, List.replicate_zero, cap, ha])
        have hs2 : (S' ++ J2 ++ [Cell.lst (L.map fun ks => lotV (ks ++ [p.1]))])[n]? = some (.lst (L.map lotV)) := app_get (app_get hn)
        have hadd := add_oo (S := S' ++ J2 ++ [Cell.lst (L.map fun ks => lotV (ks ++ [p.1]))]) hs2 app_last (by rw [List.length_map, List.length_map]; unfold cap; omega)
        subst c
        refine ⟨[some h0, some (chV l), some ov, some xv, some (.obj n), x5, some (oV p.1), some (fV p.2)], by rw [b1]; rfl, .inl ⟨[some h0, some (chV l), some ov, some xv, some (.obj (S' ++ J2 ++ [Cell.lst (L.map fun ks => lotV (ks ++ [p.1]))]).length), x5, some (oV p.1), some (fV p.2)], S' ++ J2 ++ [Cell.lst (L.map fun ks => lotV (ks ++ [p.1]))] ++ [.lst (L.map lotV ++ L.map fun ks => lotV (ks ++ [p.1]))], ?_, J ++ J2 ++ [Cell.lst (L.map fun ks => lotV (ks ++ [p.1]))] ++ [.lst (L.map lotV ++ L.map fun ks => lotV (ks ++ [p.1]))], _, L ++ L.map fun ks => ks ++ [p.1], r, x5, _, _, by rw [a]; simp only [List.append_assoc], b2, rfl, ?_, ?_, hup.2, fun p' h' => hin p' (List.mem_cons_of_mem _ h'), ?_⟩⟩
        · unfold lotsLoop1
          simp only [b_cons, b_nil, s_asg, s_par, s_sub, s_ret, s_expr, s_ife, s_whl, s_for, s_raise, s_pass, e_cst, e_glb0, e_glb1, e_glb2, e_glb3, e_var, e_tup, e_lst, e_dnew, e_bin, e_neg, e_not, e_and, e_or, e_cmp, e_chn, e_ife, e_idx, e_slc, e_rev, e_call, e_bi, e_isi, e_app, e_get2, e_lam, e_lc, l_nil, l_cons, o_none, o_some, i_seq, i_range, i_zip, bind_ok, bind_err, toF_ok, toF_err, fbind_next, fbind_ret, fbind_err, asB_ok, asI_ok, asB_err, truth_ok, truth_err, set_name, set_tup, set_nil, set_cons, fend_next, fend_ret, fend_err, List.length_cons, List.length_nil, List.length_set, List.map_cons, List.map_nil, List.cons_append, List.nil_append, List.getElem?_cons_zero, List.getElem?_cons_succ, List.set_cons_zero, List.set_cons_succ, if_true, if_false, Bool.false_eq_true, Bool.not_true, Bool.not_false, reduceIte, and_self, Nat.reduceAdd, Nat.reduceLT, Nat.reduceLeDiff, Nat.reduceSub, Nat.reduceEqDiff, List.replicate_succ, List.replicate_zero, cap, src_lst hn, hJ2, hadd]
        · rw [app_last, List.map_append, List.map_map]
          rfl
        · rw [List.length_append, List.length_map]
          rw [List.length_cons, Nat.pow_succ] at hL
          have : (L.length + L.length) * 2 ^ r.length = L.length * (2 ^ r.length * 2) := by
            rw [← Nat.two_mul, Nat.mul_comm 2, Nat.mul_assoc, Nat.mul_comm 2]
          omega
        · intro ks hks
          rcases List.mem_append.mp hks with h1 | h1
          · obtain ⟨m1, m2, m3, m4⟩ := hok ks h1
            rw [List.map_cons, List.length_cons] at m4
            exact ⟨m1, m2, fun i hi j hj => m3 i hi j (List.mem_cons_of_mem _ hj), by omega⟩
          · obtain ⟨ks0, h2, rfl⟩ := List.mem_map.mp h1
            obtain ⟨m1, m2, m3, m4⟩ := hok ks0 h2
            rw [List.map_cons, List.length_cons] at m4
            refine ⟨fun i hi => ?_, ?_, fun i hi j hj => ?_, by rw [List.length_append]; show ks0.length + 1 + _ ≤ 5; omega⟩
            · rcases List.mem_append.mp hi with h3 | h3
              · exact m1 i h3
              · rw [List.mem_singleton.mp h3]
                exact hin p (List.mem_cons_self ..)
            · rw [List.pairwise_append]
              exact ⟨m2, List.pairwise_singleton _ _, fun a ha b hb => by rw [List.mem_singleton.mp hb]; exact m3 a ha p.1 (List.mem_cons_self ..)⟩
            · rcases List.mem_append.mp hi with h3 | h3
              · exact m3 i h3 j (List.mem_cons_of_mem _ hj)
              · rw [List.mem_singleton.mp h3]
                exact hup.1 j hj)
    ⟨[.lst [.tup []]], S.length, [[]], l.take 5, none, none, none, rfl, rfl, rfl, by rw [app_last]; rfl, by
      have : (l.take 5).length ≤ 5 := List.length_take_le 5 l
      have h2 : 2 ^ (l.take 5).length ≤ 2 ^ 5 := Nat.pow_le_pow_right (by decide) this
      show 1 * 2 ^ (l.take 5).length ≤ 32
      omega, by rw [List.map_take]; exact hl.up.sublist (List.take_sublist 5 _), fun p hp => List.mem_map.mpr ⟨p, List.mem_of_mem_take hp, rfl⟩, fun ks hks => by
      rw [List.mem_singleton.mp hks]
      exact ⟨(fun _ h => nomatch h), .nil, (fun _ h => nomatch h), by
        have : (l.take 5).length ≤ 5 := List.length_take_le 5 l
        rw [List.length_map]
        show 0 + _ ≤ 5
        omega⟩⟩
  rcases hr with ⟨e', S', h1, J, n, L, r, x5, x6, x7, a, b, c, hn, hL, hup, hin, hok⟩ | ⟨_, _, _, h⟩
  · have hr0 := nil_of_map b
    subst hr0
    subst a
    subst c
    refine ⟨J, n, L, x5, x6, x7, h1, hn, ?_, hok⟩
    have : L.length * 2 ^ 0 ≤ 32 := hL
    omega
  · exact h.elim
end
end Law
end

section
set_option Elab.async false
set_option linter.all false
set_option autoImplicit false
set_option maxRecDepth 100000
namespace Law
open PySem Ev
section
variable {k : Nat} {g : Bool} {S : Store} {q : Ev.Ctx} {e : Ev.Env}
theorem odds_small {l m : List (Nat × Frac)} (hl : Ch l) (hm : Ch m) {x : Frac} {j : Nat} (h : oddsP l m = .odds x j) : x.1.natAbs ≤ 10 ^ 62 ∧ x.2.natAbs ≤ 10 ^ 62 ∧ 0 < x.2 := by
  obtain ⟨a, b, h1, h2, h3, h4⟩ := odds_rd hl hm h
  obtain ⟨h5, h6⟩ := rd_le a b h2
  rw [h1]
  exact ⟨Nat.le_trans h5 h3, Nat.le_trans h6 h4, rd_pos a b h2⟩
theorem lots2 {l m : List (Nat × Int)} {x : Frac} {j : Nat} (hl : D l) (hm : D m) (h : oddsP (dl l) (dl m) = .odds x j) (h0 : Val) (n : Nat) (L : List (List Nat)) (x5 x6 x7 : Option Val) (hn : S[n]? = some (.lst (L.map lotV))) (hL : ∀ ks ∈ L, LotOk (l.map (·.1)) [] ks) :
    ∃ J y5, FLp ⟨CC (k + 10) g, CC (k + 8) false, g⟩ (.name 5) lotsLoop2 (.lst n) ((Src.lst n).len S + 1) 0 [some h0, some (chV (dl l)), some (chV (dl m)), some (fV x), some (.obj n), x5, x6, x7] S = .next [some h0, some (chV (dl l)), some (chV (dl m)), some (fV x), some (.obj n), y5, x6, x7] (S ++ J) := by
  have hr := for_run (q := ⟨CC (k + 10) g, CC (k + 8) false, g⟩) (t := .name 5) (b := lotsLoop2) (src := .lst n) (S := S) (e := [some h0, some (chV (dl l)), some (chV (dl m)), some (fV x), some (.obj n), x5, x6, x7]) (L.map lotV)
    (fun rest e S' => ∃ (J : Store) (r : List (List Nat)) (y5 : Option Val), S' = S ++ J ∧ rest = r.map lotV ∧ e = [some h0, some (chV (dl l)), some (chV (dl m)), some (fV x), some (.obj n), y5, x6, x7] ∧ ∀ ks ∈ r, ks ∈ L) (fun _ _ => False) (len_lst hn) (fun rest e S' ⟨J, r, y5, a, _⟩ i => by rw [a]; exact at_lst (app_get hn) i)
    (fun v rest e S' ⟨J, r, y5, a, b, c, d⟩ => by
      cases r with
      | nil => exact absurd b (by simp)
      | cons ks r =>
        rw [List.map_cons] at b
        injection b with b1 b2
        have hk := hL ks (d ks (List.mem_cons_self ..))
        have hlt : ∀ i ∈ ks, i < 65 := fun i hi => hl.outs.lt i (hk.mem i hi)
        have hks : Outs ks := ⟨hlt, hk.up, by have := hk.few; omega⟩
        subst a
        obtain ⟨J1, hJ1⟩ := (lot_ok (k := k) (g := g) (S := S ++ J) hm hks).now
        obtain ⟨J2, hJ2⟩ := (lot_ok (k := k) (g := g) (S := S ++ J ++ J1) hl hks).now
        have z31 : (10 : Nat) ^ 31 ≤ 10 ^ 62 := by decide
        have pl := hl.pos
        have pm := hm.pos
        have b1l := hl.few31
        have b1m := hm.few31
        have s1 := sumW_le31 hl (up_nodup hk.up)
        have s2 := sumW_le31 hm (up_nodup hk.up)
        have s3 := sumW_nonneg hl.wpos ks
        have s4 := sumW_nonneg hm.wpos ks
        have shl : ShF (rd (sumW l ks) (tot l)) := rd_ShF pl (Nat.le_trans (by omega) z31) (Nat.le_trans (by omega) z31)
        have shm : ShF (rd (sumW m ks) (tot m)) := rd_ShF pm (Nat.le_trans (by omega) z31) (Nat.le_trans (by omega) z31)
        obtain ⟨x1, x2, x3⟩ := odds_small hl.ch hm.ch h
        have hx := odds_sh hl.ch hm.ch h
        obtain ⟨r1, r2⟩ := rd_le2 (a := sumW m ks) (b := tot m) (n := 10 ^ 31) pm (by omega) (by omega)
        have r3 := rd_pos (sumW m ks) (tot m) pm
        have big : (10 : Nat) ^ 31 * 10 ^ 62 < 10 ^ 98 := by decide
        have t1 : ((rd (sumW m ks) (tot m)).1 * x.1).natAbs < 10 ^ 98 := by
          rw [Int.natAbs_mul]
          exact Nat.lt_of_le_of_lt (Nat.mul_le_mul r1 x1) big
        have t2 : ((rd (sumW m ks) (tot m)).2 * x.2).natAbs < 10 ^ 98 := by
          rw [Int.natAbs_mul]
          exact Nat.lt_of_le_of_lt (Nat.mul_le_mul r2 x2) big
        have t3 := Int.mul_pos r3 x3
        obtain ⟨t4, t5⟩ := rd_le ((rd (sumW m ks) (tot m)).1 * x.1) ((rd (sumW m ks) (tot m)).2 * x.2) t3
        have sht : ShF (rd ((rd (sumW m ks) (tot m)).1 * x.1) ((rd (sumW m ks) (tot m)).2 * x.2)) := ⟨Nat.lt_of_le_of_lt t4 t1, Nat.lt_of_le_of_lt t5 t2, rd_pos _ _ t3⟩
        have ht := times_ok (k := k + 4) (g := g) (S := S ++ J ++ J1) (rd (sumW m ks) (tot m)) x shm hx
        have hle := less_ok (k := k + 7) (g := g) (S := S ++ J ++ J1 ++ J2) _ _ sht shl
        rw [decide_eq_false (less_no hl hm h ks hk.mem)] at hle
        subst c
        refine ⟨[some h0, some (chV (dl l)), some (chV (dl m)), some (fV x), some (.obj n), some (lotV ks), x6, x7], by rw [b1]; rfl, .inl ⟨[some h0, some (chV (dl l)), some (chV (dl m)), some (fV x), some (.obj n), some (lotV ks), x6, x7], S ++ J ++ J1 ++ J2, ?_, J ++ J1 ++ J2, r, _, by simp only [List.append_assoc], b2, rfl, fun y hy => d y (List.mem_cons_of_mem _ hy)⟩⟩
        unfold lotsLoop2
        simp only [b_cons, b_nil, s_asg, s_par, s_sub, s_ret, s_expr, s_ife, s_whl, s_for, s_raise, s_pass, e_cst, e_glb0, e_glb1, e_glb2, e_glb3, e_var, e_tup, e_lst, e_dnew, e_bin, e_neg, e_not, e_and, e_or, e_cmp, e_chn, e_ife, e_idx, e_slc, e_rev, e_call, e_bi, e_isi, e_app, e_get2, e_lam, e_lc, l_nil, l_cons, o_none, o_some, i_seq, i_range, i_zip, bind_ok, bind_err, toF_ok, toF_err, fbind_next, fbind_ret, fbind_err, asB_ok, asI_ok, asB_err, truth_ok, truth_err, set_name, set_tup, set_nil, set_cons, fend_next, fend_ret, fend_err, List.length_cons, List.length_nil, List.length_set, List.map_cons, List.map_nil, List.cons_append, List.nil_append, List.getElem?_cons_zero, List.getElem?_cons_succ, List.set_cons_zero, List.set_cons_succ, if_true, if_false, Bool.false_eq_true, Bool.not_true, Bool.not_false, reduceIte, and_self, Nat.reduceAdd, Nat.reduceLT, Nat.reduceLeDiff, Nat.reduceSub, Nat.reduceEqDiff, List.replicate_succ, List.replicate_zero, cap, hJ1, hJ2, ht, hle])
    ⟨[], L, x5, by simp, rfl, rfl, fun _ h => h⟩
  rcases hr with ⟨e', S', h1, J, r, y5, a, b, c, d⟩ | ⟨_, _, _, h⟩
  · have hr0 := nil_of_map b
    subst hr0
    subst a
    subst c
    exact ⟨J, y5, h1⟩
  · exact h.elim
theorem lots_ok {l m : List (Nat × Int)} {x : Frac} {j : Nat} (hl : D l) (hm : D m) (h : oddsP (dl l) (dl m) = .odds x j) (h0 : Val) : Ans (k + 11) g 33 [h0, chV (dl l), chV (dl m), fV x] (.bl true) S := .of fun S => by
  obtain ⟨J, n, L, x5, x6, x7, h1, hn, hL, hok⟩ := lots1 (k := k) (g := g) (S := S) h0 (chV (dl m)) (fV x) (dl l) hl.ch.outs
  have hfst : (dl l).map (·.1) = l.map (·.1) := map_sh_fst (tot l) l
  rw [hfst] at hok
  obtain ⟨J2, y5, h2⟩ := lots2 (k := k) (g := g) (S := S ++ J) hl hm h h0 n L x5 x6 x7 hn hok
  refine ⟨J ++ J2, ?_⟩
  rw [C_at (k := k + 8) (np := 4) (nn := 8) (body := lotsBody) rfl rfl]
  have hsl : ∀ S, slcop (chV (dl l)) none (some 5) S = .ok (.tup (((dl l).take 5).map prV)) S := fun S => by
    unfold chV
    rw [slc_t5, List.map_take]
  have htg : tgOk (.tup (((dl l).take 5).map prV)) (.tup (.cons (.name 6) (.cons (.name 7) .nil))) = true := rfl
  have htg2 : tgOk (.lst n) (.name 5) = true := rfl
  have hal : ∀ (c : Cell) (S : Store), alloc c S = .ok (.obj S.length) (S ++ [c]) := fun _ _ => rfl
  simp only [b_cons, b_nil, s_asg, s_par, s_sub, s_ret, s_expr, s_ife, s_whl, s_for, s_raise, s_pass, e_cst, e_glb0, e_glb1, e_glb2, e_glb3, e_var, e_tup, e_lst, e_dnew, e_bin, e_neg, e_not, e_and, e_or, e_cmp, e_chn, e_ife, e_idx, e_slc, e_rev, e_call, e_bi, e_isi, e_app, e_get2, e_lam, e_lc, l_nil, l_cons, o_none, o_some, i_seq, i_range, i_zip, bind_ok, bind_err, toF_ok, toF_err, fbind_next, fbind_ret, fbind_err, asB_ok, asI_ok, asB_err, truth_ok, truth_err, set_name, set_tup, set_nil, set_cons, fend_next, fend_ret, fend_err, List.length_cons, List.length_nil, List.length_set, List.map_cons, List.map_nil, List.cons_append, List.nil_append, List.getElem?_cons_zero, List.getElem?_cons_succ, List.set_cons_zero, List.set_cons_succ, if_true, if_false, Bool.false_eq_true, Bool.not_true, Bool.not_false, reduceIte, and_self, Nat.reduceAdd, Nat.reduceLT, Nat.reduceLeDiff, Nat.reduceSub, Nat.reduceEqDiff, List.replicate_succ, List.replicate_zero, cap, lotsBody, hal, hsl, seq_t, htg, Bool.true_eq_false, h1, src_lst hn, htg2, h2]
  rw [List.append_assoc]
end
end Law
end

section
set_option Elab.async false
set_option linter.all false
set_option autoImplicit false
set_option maxRecDepth 100000
namespace Law
open PySem Ev
section
variable {k : Nat} {g : Bool} {S : Store} {q : Ev.Ctx} {e : Ev.Env}
theorem draw1 {m mm : Nat} (hS : Hd m S) (hm : m < 10 ^ 9) (h0 : 0 < mm) (h1 : mm ≤ 1000) : ∃ (d : Nat) (S' : Store), d < mm ∧ CC (k + 3) g 20 [.obj 2, .int (mm : Nat)] S = .ok (.int (d : Nat)) S' ∧ Keep S S' ∧ Hd (m + 1) S' ∧ S'.length = S.length := by
  obtain ⟨d, p, w, s, t, a, b, c⟩ := draw_ok (k := k) (g := g) hS hm h0 h1
  exact ⟨d, TT S p w s t, a, b, Keep.tt S p w s t, c, by unfold TT; rw [List.length_set]⟩
theorem rng_ok {n : Nat} (h : n < 1000) : rngop (n : Int) S = .ok (.rng n) S := by
  show (if (n : Int) < 1000000000000 ∧ -1000000000000 < (n : Int) then R.ok (Src.rng (n : Int).toNat) S else .stuck) = _
  rw [if_pos (show (n : Int) < 1000000000000 ∧ -1000000000000 < (n : Int) by omega), Int.toNat_natCast]
theorem rng_ok1 {n : Nat} (h : n < 900) : rngop (1 + (n : Int)) S = .ok (.rng (n + 1)) S := by
  have := rng_ok (S := S) (n := n + 1) (by omega)
  rwa [show (((n + 1 : Nat)) : Int) = 1 + (n : Int) by omega] at this
def rngL (n : Nat) : List Val := (List.range n).map fun j => Val.int (j : Nat)
theorem rngL_len (n : Nat) : (rngL n).length = n := by unfold rngL; rw [List.length_map, List.length_range]
/-- a drawn out -/
theorem pack (xs : List Int) (v : Int) (h : xs.length ≤ 2) (hx : ∀ x ∈ xs, -1 ≤ x ∧ x ≤ 1) (hv : -2 ≤ v ∧ v ≤ 2) : ∃ i, i < 65 ∧ Val.tup [.tup (xs.map Val.int), .int v] = oV i := by
  have hm : xs ∈ outsX := by
    match xs, h, hx with
    | [], _, _ => decide
    | [a], _, hx =>
      have ha := hx a (by simp)
      have : a = -1 ∨ a = 0 ∨ a = 1 := by omega
      rcases this with rfl | rfl | rfl <;> decide
    | [a, b], _, hx =>
      have ha := hx a (by simp)
      have hb := hx b (by simp)
      have h1 : a = -1 ∨ a = 0 ∨ a = 1 := by omega
      have h2 : b = -1 ∨ b = 0 ∨ b = 1 := by omega
      rcases h1 with rfl | rfl | rfl <;> rcases h2 with rfl | rfl | rfl <;> decide
    | _ :: _ :: _ :: _, h, _ =>
      simp only [List.length_cons] at h
      omega
  obtain ⟨t, ht, he⟩ := List.getElem_of_mem hm
  have hl : outsX.length = 13 := rfl
  refine ⟨5 * t + (v + 2).toNat, by omega, ?_⟩
  have e1 : (5 * t + (v + 2).toNat) / 5 = t := by omega
  have e2 : (5 * t + (v + 2).toNat) % 5 = (v + 2).toNat := by omega
  have e3 : oX (5 * t + (v + 2).toNat) = xs := by
    unfold oX
    rw [e1, List.getD_eq_getElem?_getD, List.getElem?_eq_getElem ht, he]
    rfl
  have e4 : oI (5 * t + (v + 2).toNat) = v := by
    unfold oI
    rw [e2]
    omega
  unfold oV
  rw [e3, e4]
/-- the lap that draws a tuple -/
theorem told_lap {m n : Nat} (hS : Hd m S) (hm : m + n < 10 ^ 9) (hn : n ≤ 10) (x1 x2 x3 x4 : Option Val) :
    ∃ (S' : Store) (xs : List Int), lcStart ⟨CC (k + 3) g, CC (k + 1) false, g⟩ [4] (.bin .sub (.call 20 (.cons (.var 0) (.cons (.cst (.int 3)) .nil))) (.cst (.int 1))) (.name 4) .none [some (.obj 2), x1, x2, x3, x4] (.ok (.rng n) S) = .ok (.obj S'.length) (S' ++ [.lst (xs.map Val.int)]) ∧ xs.length = n ∧ (∀ x ∈ xs, -1 ≤ x ∧ x ≤ 1) ∧ Keep S S' ∧ Hd (m + n) S' ∧ S'.length = S.length := by
  obtain ⟨acc, S', h1, ⟨xs, a, b, c, d, f, f2⟩, _⟩ := lc_run (q := ⟨CC (k + 3) g, CC (k + 1) false, g⟩) (e := [some (.obj 2), x1, x2, x3, x4]) (own := [4]) (elt := .bin .sub (.call 20 (.cons (.var 0) (.cons (.cst (.int 3)) .nil))) (.cst (.int 1))) (tg := .name 4) (c := .none) (src := .rng n) (S := S) (rngL n)
    (fun rest acc S' => ∃ xs : List Int, acc = xs.map Val.int ∧ xs.length + rest.length = n ∧ (∀ x ∈ xs, -1 ≤ x ∧ x ≤ 1) ∧ Keep S S' ∧ Hd (m + xs.length) S' ∧ S'.length = S.length) rfl (rngL_len n).symm (by rw [rngL_len]; unfold cap; omega)
    (fun _ _ S' _ i => at_rng n i)
    (fun v rest acc S' ⟨xs, a, b, c, d, f, f2⟩ => by
      rw [List.length_cons] at b
      obtain ⟨r, S2, r1, r2, r3, r4, r5⟩ := draw1 (k := k) (g := g) (mm := 3) f (by omega) (by decide) (by decide)
      have r2' : CC (k + 3) g 20 [.obj 2, .int 3] S' = .ok (.int (r : Nat)) S2 := r2
      refine ⟨some (.int ((r : Nat) - 1)), S2, lcTurn_yes (e2 := [some (.obj 2), x1, x2, x3, some v]) rfl ?_, xs ++ [((r : Nat) : Int) - 1], ?_, by rw [List.length_append]; show xs.length + 1 + rest.length = n; omega, ?_, d.trans r3, ?_, by omega⟩
      · simp only [b_cons, b_nil, s_asg, s_par, s_sub, s_ret, s_expr, s_ife, s_whl, s_for, s_raise, s_pass, e_cst, e_glb0, e_glb1, e_glb2, e_glb3, e_var, e_tup, e_lst, e_dnew, e_bin, e_neg, e_not, e_and, e_or, e_cmp, e_chn, e_ife, e_idx, e_slc, e_rev, e_call, e_bi, e_isi, e_app, e_get2, e_lam, e_lc, l_nil, l_cons, o_none, o_some, i_seq, i_range, i_zip, bind_ok, bind_err, toF_ok, toF_err, fbind_next, fbind_ret, fbind_err, asB_ok, asI_ok, asB_err, truth_ok, truth_err, set_name, set_tup, set_nil, set_cons, fend_next, fend_ret, fend_err, List.length_cons, List.length_nil, List.length_set, List.map_cons, List.map_nil, List.cons_append, List.nil_append, List.getElem?_cons_zero, List.getElem?_cons_succ, List.set_cons_zero, List.set_cons_succ, if_true, if_false, Bool.false_eq_true, Bool.not_true, Bool.not_false, reduceIte, and_self, Nat.reduceAdd, Nat.reduceLT, Nat.reduceLeDiff, Nat.reduceSub, Nat.reduceEqDiff, List.replicate_succ, List.replicate_zero, cap, r2', sub_ii]
      · rw [a, List.map_append]
        rfl
      · intro x hx
        rcases List.mem_append.mp hx with h | h
        · exact c x h
        · rw [List.mem_singleton.mp h]
          omega
      · rw [List.length_append]
        exact r4)
    ⟨[], rfl, by rw [rngL_len]; simp, (fun _ h => nomatch h), Keep.refl S, hS, rfl⟩
  have hb : xs.length = n := by simpa using b
  rw [a] at h1
  rw [hb] at f
  exact ⟨S', xs, h1, hb, c, d, f, f2⟩
/-! the dict of the drawn outs -/
def tt : Unit → Val := fun _ => .bl true
theorem set_dic {N i : Nat} {l : List (Nat × Unit)} (hs : S[N]? = some (.dic (dicOf tt l))) (hc : l.length < cap) : setop (.obj N) (oV i) (.bl true) S = some (S.set N (.dic (putd (dicOf tt l) (oK i) (oV i) (.bl true)))) := by
  have e : setop (.obj N) (oV i) (.bl true) S = (match S[N]? with | some (.dic kvs) => (match keyOf (oV i) with | some kk => if kvs.length < cap then some (S.set N (.dic (putd kvs kk (oV i) (.bl true)))) else none | none => none) | _ => none) := by
    unfold setop oV
    simp only [hs] <;> rfl
  rw [e, hs, key_out]
  show (if (dicOf tt l).length < cap then _ else _) = _
  rw [if_pos (show (dicOf tt l).length < cap by unfold dicOf; rw [List.length_map]; exact hc)]
structure Keys (l : List (Nat × Unit)) : Prop where
  lt : ∀ p ∈ l, p.1 < 65
  nd : (l.map (·.1)).Nodup
theorem put_any {i : Nat} (hi : i < 65) (l : List (Nat × Unit)) (h : Keys l) : ∃ l', putd (dicOf tt l) (oK i) (oV i) (.bl true) = dicOf tt l' ∧ Keys l' ∧ l' ≠ [] ∧ l'.length ≤ l.length + 1 := by
  by_cases hm : ∃ p ∈ l, p.1 = i
  · obtain ⟨p, hp, he⟩ := hm
    refine ⟨l, ?_, h, (fun h0 => absurd hp (by rw [h0]; simp)), by omega⟩
    unfold putd
    rw [any_key tt hi l h.lt]
    have : (l.any fun p => p.1 == i) = true := by
      rw [List.any_eq_true]
      exact ⟨p, hp, by simpa using he⟩
    rw [this, if_pos rfl]
    unfold dicOf
    rw [List.map_map]
    apply List.map_congr_left
    intro p _
    show (if keyOf (oV p.1) = some (oK i) then (oV p.1, Val.bl true) else (oV p.1, tt p.2)) = _
    split <;> rfl
  · have hn : ∀ p ∈ l, p.1 ≠ i := fun p hp he => hm ⟨p, hp, he⟩
    refine ⟨l ++ [(i, ())], putd_new tt hi l h.lt hn (), ⟨?_, ?_⟩, by simp, by simp⟩
    · intro p hp
      rcases List.mem_append.mp hp with h1 | h1
      · exact h.lt p h1
      · rw [List.mem_singleton.mp h1]
        exact hi
    · rw [List.map_append, List.nodup_append]
      refine ⟨h.nd, by simp, fun a ha b hb => ?_⟩
      obtain ⟨p, hp, rfl⟩ := List.mem_map.mp ha
      have : b = i := by simpa using hb
      rw [this]
      exact hn p hp
theorem oD_sortable (l : List Nat) (h : ∀ i ∈ l, i < 65) : sortable (l.map oD) = true := by
  unfold sortable
  rw [List.all_eq_true]
  intro d hd
  obtain ⟨i, hi, rfl⟩ := List.mem_map.mp hd
  rw [Bool.and_eq_true]
  refine ⟨rfl, ?_⟩
  rw [List.all_eq_true]
  intro d hd
  obtain ⟨j, hj, rfl⟩ := List.mem_map.mp hd
  exact (table (h i hi) (h j hj)).1
theorem mapM_outs (d : Nat) : ∀ l : List Nat, (l.map oV).mapM (toD S (d + 2)) = some (l.map oD)
  | [] => rfl
  | i :: l => by
    rw [List.map_cons, List.mapM_cons, toD_out, mapM_outs d l]
    rfl
theorem sortV_ok (l : List Nat) (h : ∀ i ∈ l, i < 65) (hn : l.Nodup) : ∃ L : List Nat, sortV S (l.map oV) = some (L.map oV) ∧ L.Pairwise (· < ·) ∧ (∀ i ∈ L, i < 65) ∧ L.length = l.length := by
  refine ⟨l.mergeSort fun i j : Nat => decide (i ≤ j), ?_, ?_, ?_, List.length_mergeSort ..⟩
  · unfold sortV
    rw [show (l.map oV).mapM (toD S deepMost) = _ from mapM_outs 10 l]
    simp only [oD_sortable l h, if_true]
    rw [List.zip_map', ← List.map_mergeSort (r := fun i j : Nat => decide (i ≤ j)) (s := PySem.W.dataLe false fun p : Val × PyData => p.2) (f := fun i : Nat => (oV i, oD i)) (l := l) (fun a ha b hb => ((table (h a ha) (h b hb)).2.2.1).symm), List.map_map]
    rfl
  · have h1 : (l.mergeSort fun i j => decide (i ≤ j)).Pairwise fun i j => decide (i ≤ j) = true := List.pairwise_mergeSort (fun a b c h1 h2 => by
      simp only [decide_eq_true_eq] at *
      omega) (fun a b => by
      simp only [Bool.or_eq_true, decide_eq_true_eq]
      omega) l
    have h2 : (l.mergeSort fun i j => decide (i ≤ j)).Nodup := (List.mergeSort_perm l _).nodup_iff.mpr hn
    exact (h1.and h2).imp fun h => by
      have h3 := of_decide_eq_true h.1
      have h4 := h.2
      omega
  · intro i hi
    exact h i ((List.mergeSort_perm l _).mem_iff.mp hi)
theorem sorted_ok {N : Nat} {l : List (Nat × Unit)} (hs : S[N]? = some (.dic (dicOf tt l))) (h : Keys l) (b : Bool) : ∃ L : List Nat, biop b .sorted (.obj N) S = .ok (.obj S.length) (S ++ [.lst (L.map oV)]) ∧ L.Pairwise (· < ·) ∧ (∀ i ∈ L, i < 65) ∧ L.length = l.length := by
  obtain ⟨L, h1, h2, h3, h4⟩ := sortV_ok (S := S) (l.map (·.1)) (fun i hi => by
    obtain ⟨p, hp, rfl⟩ := List.mem_map.mp hi
    exact h.lt p hp) h.nd
  refine ⟨L, ?_, h2, h3, by rw [h4, List.length_map]⟩
  show (match S[N]? with | some (.dic kvs) => (match sortV S (kvs.map Prod.fst) with | some vs => alloc (.lst vs) S | none => .stuck) | _ => .stuck) = _
  rw [hs]
  show (match sortV S ((dicOf tt l).map (·.1)) with | some vs => alloc (.lst vs) S | none => .stuck) = _
  have hk : (dicOf tt l).map (·.1) = (l.map (·.1)).map oV := by
    unfold dicOf
    rw [List.map_map, List.map_map]
    rfl
  rw [hk, h1]
  rfl
end
end Law
end

section
set_option Elab.async false
set_option linter.all false
set_option autoImplicit false
set_option maxRecDepth 100000
namespace Law
open PySem Ev
section
variable {k : Nat} {g : Bool} {S : Store} {q : Ev.Ctx} {e : Ev.Env}
theorem Hd.setAt {m N : Nat} {c : Cell} (h : Hd m S) (h1 : 2 < N) : Hd m (S.set N c) := by
  obtain ⟨cs, p, w, s, t, e1, e2, r⟩ := h
  exact ⟨cs, p, w, s, t, by rw [List.getElem?_set_ne (by omega)]; exact e1, by rw [List.getElem?_set_ne (by omega)]; exact e2, r⟩
theorem Keep.setAt {S0 : Store} {N : Nat} {c : Cell} (h : Keep S0 S) (h1 : S0.length ≤ N) : Keep S0 (S.set N c) := ⟨by rw [List.length_set]; exact h.1, fun n h2 h3 => by
  rw [List.getElem?_set_ne (by omega)]
  exact h.2 n h2 h3⟩
theorem dnew_ok : alloc (.dic []) S = .ok (.obj S.length) (S ++ [.dic []]) := rfl
theorem alloc_ok (c : Cell) : alloc c S = .ok (.obj S.length) (S ++ [c]) := rfl
def poolElt : IE := (.bin .sub (.call 20 (.cons (.var 0) (.cons (.cst (.int 3)) .nil))) (.cst (.int 1)))
def poolIt : II := (.range (.call 20 (.cons (.var 0) (.cons (.cst (.int 3)) .nil))))
def poolS1 : IS := .asg (.name 3) (.bi .tuple (.lc [4] poolElt (.name 4) poolIt .none))
def poolK : IE := (.tup (.cons (.var 3) (.cons (.bin .sub (.call 20 (.cons (.var 0) (.cons (.cst (.int 5)) .nil))) (.cst (.int 2))) .nil)))
def poolS2 : IS := .sub (.var 1) poolK (.cst (.bl true))
def poolLap : IB := .cons poolS1 (.cons poolS2 .nil)
def poolIt2 : II := (.range (.bin .add (.cst (.int 1)) (.call 20 (.cons (.var 0) (.cons (.cst (.int 7)) .nil)))))
def poolBody : IB := (.cons (.asg (.name 1) .dnew) (.cons (.for (.name 2) poolIt2 poolLap) (.cons (.ret (.bi .sorted (.var 1))) .nil)))
theorem poolBody_is : b__law_pool = poolBody := rfl
theorem pool_lap {m N : Nat} {l : List (Nat × Unit)} (hS : Hd m S) (hm : m < 10 ^ 8) (hN2 : 2 < N) (hN : S[N]? = some (.dic (dicOf tt l))) (hl : Keys l) (hc : l.length < 100) (v : Val) (x3 : Option Val) :
    ∃ (l' : List (Nat × Unit)) (S' : Store) (x3' : Option Val), evB G LT WW ⟨CC (k + 3) g, CC (k + 1) false, g⟩ poolLap [some (.obj 2), some (.obj N), some v, x3, none] S = .next [some (.obj 2), some (.obj N), some v, x3', none] S' ∧ S'[N]? = some (.dic (dicOf tt l')) ∧ Keys l' ∧ l' ≠ [] ∧ l'.length ≤ l.length + 1 ∧ (∀ S0, Keep S0 S → S0.length ≤ N → Keep S0 S') ∧ Hd (m + 4) S' := by
  obtain ⟨r, S3, r1, r2, r3, r4, r5⟩ := draw1 (k := k) (g := g) (mm := 3) hS (by omega) (by decide) (by decide)
  have r2' : CC (k + 3) g 20 [.obj 2, .int 3] S = .ok (.int (r : Nat)) S3 := r2
  obtain ⟨S4, xs, t1, t2, t3, t4, t5, t6⟩ := told_lap (k := k) (g := g) (n := r) r4 (by omega) (by omega) (some (.obj N)) (some v) x3 none
  obtain ⟨r', S5, u1, u2, u3, u4, u5⟩ := draw1 (k := k) (g := g) (mm := 5) (t5.app [.lst (xs.map Val.int)]) (by omega) (by decide) (by decide)
  have u2' : CC (k + 3) g 20 [.obj 2, .int 5] (S4 ++ [.lst (xs.map Val.int)]) = .ok (.int (r' : Nat)) S5 := u2
  obtain ⟨i, hi, hp⟩ := pack xs ((r' : Nat) - 2) (by omega) t3 (by omega)
  have k5 : Keep S S5 := ((r3.trans t4).trans (Keep.app _ _)).trans u3
  have hN5 := k5.get (n := N) (by omega) hN
  have hst := set_dic (i := i) hN5 (by unfold cap; omega)
  obtain ⟨l', p1, p2, p3, p4⟩ := put_any hi l hl
  rw [p1] at hst
  have hlen5 : N < S5.length := (List.getElem?_eq_some_iff.mp hN5).1
  refine ⟨l', S5.set N (.dic (dicOf tt l')), some (.tup (xs.map Val.int)), ?_, List.getElem?_set_self hlen5, p2, p3, p4, fun S0 h1 h2 => (h1.trans k5).setAt h2, Hd.mono (u4.setAt hN2) (by omega)⟩
  have t1' : lcStart ⟨CC (k + 3) g, CC (k + 1) false, g⟩ [4] poolElt (.name 4) .none [some (.obj 2), some (.obj N), some v, x3, none] (.ok (.rng r) S3) = .ok (.obj S4.length) (S4 ++ [.lst (xs.map Val.int)]) := t1
  have hit : evI G LT poolIt ⟨CC (k + 3) g, CC (k + 1) false, g⟩ [some (.obj 2), some (.obj N), some v, x3, none] S = .ok (.rng r) S3 := by
    have hc : evE G LT (.call 20 (.cons (.var 0) (.cons (.cst (.int 3)) .nil))) ⟨CC (k + 3) g, CC (k + 1) false, g⟩ [some (.obj 2), some (.obj N), some v, x3, none] S = .ok (.int (r : Nat)) S3 := by
      simp only [b_cons, b_nil, s_asg, s_par, s_sub, s_ret, s_expr, s_ife, s_whl, s_for, s_raise, s_pass, e_cst, e_glb0, e_glb1, e_glb2, e_glb3, e_var, e_tup, e_lst, e_dnew, e_bin, e_neg, e_not, e_and, e_or, e_cmp, e_chn, e_ife, e_idx, e_slc, e_rev, e_call, e_bi, e_isi, e_app, e_get2, e_lam, e_lc, l_nil, l_cons, o_none, o_some, i_seq, i_range, i_zip, bind_ok, bind_err, toF_ok, toF_err, fbind_next, fbind_ret, fbind_err, asB_ok, asI_ok, asB_err, truth_ok, truth_err, set_name, set_tup, set_nil, set_cons, fend_next, fend_ret, fend_err, List.length_cons, List.length_nil, List.length_set, List.map_cons, List.map_nil, List.cons_append, List.nil_append, List.getElem?_cons_zero, List.getElem?_cons_succ, List.set_cons_zero, List.set_cons_succ, if_true, if_false, Bool.false_eq_true, Bool.not_true, Bool.not_false, reduceIte, and_self, Nat.reduceAdd, Nat.reduceLT, Nat.reduceLeDiff, Nat.reduceSub, Nat.reduceEqDiff, List.replicate_succ, List.replicate_zero, cap, r2']
    unfold poolIt
    rw [i_range, hc, asI_ok, bind_ok]
    exact rng_ok (show r < 1000 by omega)
  have s1 : evS G LT WW ⟨CC (k + 3) g, CC (k + 1) false, g⟩ poolS1 [some (.obj 2), some (.obj N), some v, x3, none] S = .next [some (.obj 2), some (.obj N), some v, some (.tup (xs.map Val.int)), none] (S4 ++ [.lst (xs.map Val.int)]) := by
    unfold poolS1
    rw [s_asg, e_bi, e_lc, hit, t1', bind_ok, tuple_ok app_last, toF_ok]
    rfl
  have s2 : evE G LT poolK ⟨CC (k + 3) g, CC (k + 1) false, g⟩ [some (.obj 2), some (.obj N), some v, some (.tup (xs.map Val.int)), none] (S4 ++ [.lst (xs.map Val.int)]) = .ok (oV i) S5 := by
    unfold poolK
    simp only [b_cons, b_nil, s_asg, s_par, s_sub, s_ret, s_expr, s_ife, s_whl, s_for, s_raise, s_pass, e_cst, e_glb0, e_glb1, e_glb2, e_glb3, e_var, e_tup, e_lst, e_dnew, e_bin, e_neg, e_not, e_and, e_or, e_cmp, e_chn, e_ife, e_idx, e_slc, e_rev, e_call, e_bi, e_isi, e_app, e_get2, e_lam, e_lc, l_nil, l_cons, o_none, o_some, i_seq, i_range, i_zip, bind_ok, bind_err, toF_ok, toF_err, fbind_next, fbind_ret, fbind_err, asB_ok, asI_ok, asB_err, truth_ok, truth_err, set_name, set_tup, set_nil, set_cons, fend_next, fend_ret, fend_err, List.length_cons, List.length_nil, List.length_set, List.map_cons, List.map_nil, List.cons_append, List.nil_append, List.getElem?_cons_zero, List.getElem?_cons_succ, List.set_cons_zero, List.set_cons_succ, if_true, if_false, Bool.false_eq_true, Bool.not_true, Bool.not_false, reduceIte, and_self, Nat.reduceAdd, Nat.reduceLT, Nat.reduceLeDiff, Nat.reduceSub, Nat.reduceEqDiff, List.replicate_succ, List.replicate_zero, cap, u2', sub_ii, hp]
  have s3 : evS G LT WW ⟨CC (k + 3) g, CC (k + 1) false, g⟩ poolS2 [some (.obj 2), some (.obj N), some v, some (.tup (xs.map Val.int)), none] (S4 ++ [.lst (xs.map Val.int)]) = .next [some (.obj 2), some (.obj N), some v, some (.tup (xs.map Val.int)), none] (S5.set N (.dic (dicOf tt l'))) := by
    unfold poolS2
    rw [s_sub, e_cst, toF_ok, e_var]
    simp only [List.getElem?_cons_zero, List.getElem?_cons_succ, toF_ok, s2, hst]
  rw [poolLap, b_cons, s1, fbind_next, b_cons, s3, fbind_next, b_nil]
theorem pool_loop {m N d : Nat} (hS : Hd m S) (hm : m < 10 ^ 7) (hd : d < 7) (hN2 : 2 < N) (hN : S[N]? = some (.dic (dicOf tt []))) (S0 : Store) (h0 : Keep S0 S) (h00 : S0.length ≤ N) :
    ∃ (l : List (Nat × Unit)) (S' : Store) (x2 x3 : Option Val), FLp ⟨CC (k + 3) g, CC (k + 1) false, g⟩ (.name 2) poolLap (.rng (d + 1)) ((Src.rng (d + 1)).len S + 1) 0 [some (.obj 2), some (.obj N), none, none, none] S = .next [some (.obj 2), some (.obj N), x2, x3, none] S' ∧ S'[N]? = some (.dic (dicOf tt l)) ∧ Keys l ∧ l ≠ [] ∧ l.length ≤ 7 ∧ Keep S0 S' ∧ Hd (m + 28) S' := by
  have hr := for_run (q := ⟨CC (k + 3) g, CC (k + 1) false, g⟩) (t := .name 2) (b := poolLap) (src := .rng (d + 1)) (S := S) (e := [some (.obj 2), some (.obj N), none, none, none]) (rngL (d + 1))
    (fun rest e S' => ∃ (l : List (Nat × Unit)) (x2 x3 : Option Val), e = [some (.obj 2), some (.obj N), x2, x3, none] ∧ S'[N]? = some (.dic (dicOf tt l)) ∧ Keys l ∧ l.length + rest.length ≤ d + 1 ∧ (rest.length < d + 1 → l ≠ []) ∧ Keep S0 S' ∧ ∃ c, c + 4 * rest.length ≤ 4 * (d + 1) ∧ Hd (m + c) S') (fun _ _ => False) (rngL_len _).symm (fun _ _ _ _ i => at_rng _ i)
    (fun v rest e S' ⟨l, x2, x3, a, b, c, hl, hne, kk, cc, hcc, hh⟩ => by
      rw [List.length_cons] at hl hcc
      obtain ⟨l', S6, x3', lap, b6, p2, p3, p4, k6, h6⟩ := pool_lap (k := k) (g := g) hh (by omega) hN2 b c (by omega) v x3
      exact ⟨[some (.obj 2), some (.obj N), some v, x3, none], by rw [a]; rfl, .inl ⟨_, S6, lap, l', _, _, rfl, b6, p2, by omega, fun _ => p3, k6 S0 kk h00, cc + 4, by omega, h6⟩⟩)
    ⟨[], none, none, rfl, hN, ⟨(fun _ h => nomatch h), .nil⟩, by rw [rngL_len]; simp, fun h => by rw [rngL_len] at h; omega, h0, 0, by rw [rngL_len]; omega, hS⟩
  rcases hr with ⟨e', S', h1, l, x2, x3, a, b, c, hl, hne, kk, cc, hcc, hh⟩ | ⟨_, _, _, h⟩
  · subst a
    rw [List.length_nil] at hl hne hcc
    exact ⟨l, S', x2, x3, h1, b, c, hne (by omega), by omega, kk, hh.mono (by omega)⟩
  · exact h.elim
theorem pool_ok {m : Nat} (hS : Hd m S) (hm : m < 10 ^ 6) : ∃ (S' : Store) (n : Nat) (L : List Nat), CC (k + 4) g 29 [.obj 2] S = .ok (.obj n) S' ∧ S'[n]? = some (.lst (L.map oV)) ∧ n ≠ 2 ∧ Outs L ∧ L ≠ [] ∧ L.length ≤ 7 ∧ Keep S S' ∧ Hd (m + 40) S' := by
  have hlen := hS.len
  obtain ⟨d, S2, d1, d2, d3, d4, d5⟩ := draw1 (k := k) (g := g) (mm := 7) (hS.app [.dic []]) (by omega) (by decide) (by decide)
  have d2' : CC (k + 3) g 20 [.obj 2, .int 7] (S ++ [.dic []]) = .ok (.int (d : Nat)) S2 := d2
  have hN : S2[S.length]? = some (.dic (dicOf tt [])) := d3.get (by omega) app_last
  obtain ⟨l, S', x2, x3, h1, b, c, hne, hl', kk, hh⟩ := pool_loop (k := k) (g := g) d4 (by omega) d1 hlen hN S ((Keep.app S _).trans d3) (Nat.le_refl _)
  obtain ⟨L, s1, s2, s3, s4⟩ := sorted_ok b c g
  have hL7 : L.length ≤ 7 := by omega
  have hlen2 := kk.1
  refine ⟨S' ++ [.lst (L.map oV)], S'.length, L, ?_, app_last, by omega, ⟨s3, s2, by omega⟩, ?_, hL7, kk.trans (Keep.app _ _), (hh.app _).mono (by omega)⟩
  · rw [C_at (k := k + 1) (np := 1) (nn := 5) (body := poolBody) rfl rfl]
    have htg : tgOk (.rng (d + 1)) (.name 2) = true := rfl
    have hit : evI G LT poolIt2 ⟨CC (k + 3) g, CC (k + 1) false, g⟩ [some (.obj 2), some (.obj S.length), none, none, none] (S ++ [.dic []]) = .ok (.rng (d + 1)) S2 := by
      have hc : evE G LT (.bin .add (.cst (.int 1)) (.call 20 (.cons (.var 0) (.cons (.cst (.int 7)) .nil)))) ⟨CC (k + 3) g, CC (k + 1) false, g⟩ [some (.obj 2), some (.obj S.length), none, none, none] (S ++ [.dic []]) = .ok (.int (1 + (d : Nat))) S2 := by
        simp only [b_cons, b_nil, s_asg, s_par, s_sub, s_ret, s_expr, s_ife, s_whl, s_for, s_raise, s_pass, e_cst, e_glb0, e_glb1, e_glb2, e_glb3, e_var, e_tup, e_lst, e_dnew, e_bin, e_neg, e_not, e_and, e_or, e_cmp, e_chn, e_ife, e_idx, e_slc, e_rev, e_call, e_bi, e_isi, e_app, e_get2, e_lam, e_lc, l_nil, l_cons, o_none, o_some, i_seq, i_range, i_zip, bind_ok, bind_err, toF_ok, toF_err, fbind_next, fbind_ret, fbind_err, asB_ok, asI_ok, asB_err, truth_ok, truth_err, set_name, set_tup, set_nil, set_cons, fend_next, fend_ret, fend_err, List.length_cons, List.length_nil, List.length_set, List.map_cons, List.map_nil, List.cons_append, List.nil_append, List.getElem?_cons_zero, List.getElem?_cons_succ, List.set_cons_zero, List.set_cons_succ, if_true, if_false, Bool.false_eq_true, Bool.not_true, Bool.not_false, reduceIte, and_self, Nat.reduceAdd, Nat.reduceLT, Nat.reduceLeDiff, Nat.reduceSub, Nat.reduceEqDiff, List.replicate_succ, List.replicate_zero, cap, d2', add_ii]
      unfold poolIt2
      rw [i_range, hc, asI_ok, bind_ok]
      exact rng_ok1 (show d < 900 by omega)
    simp only [b_cons, b_nil, s_asg, s_par, s_sub, s_ret, s_expr, s_ife, s_whl, s_for, s_raise, s_pass, e_cst, e_glb0, e_glb1, e_glb2, e_glb3, e_var, e_tup, e_lst, e_dnew, e_bin, e_neg, e_not, e_and, e_or, e_cmp, e_chn, e_ife, e_idx, e_slc, e_rev, e_call, e_bi, e_isi, e_app, e_get2, e_lam, e_lc, l_nil, l_cons, o_none, o_some, i_seq, i_range, i_zip, bind_ok, bind_err, toF_ok, toF_err, fbind_next, fbind_ret, fbind_err, asB_ok, asI_ok, asB_err, truth_ok, truth_err, set_name, set_tup, set_nil, set_cons, fend_next, fend_ret, fend_err, List.length_cons, List.length_nil, List.length_set, List.map_cons, List.map_nil, List.cons_append, List.nil_append, List.getElem?_cons_zero, List.getElem?_cons_succ, List.set_cons_zero, List.set_cons_succ, if_true, if_false, Bool.false_eq_true, Bool.not_true, Bool.not_false, reduceIte, and_self, Nat.reduceAdd, Nat.reduceLT, Nat.reduceLeDiff, Nat.reduceSub, Nat.reduceEqDiff, List.replicate_succ, List.replicate_zero, cap, poolBody, dnew_ok, hit, htg, Bool.true_eq_false, h1, s1]
  · intro h0
    rw [h0] at s4
    exact hne (List.eq_nil_of_length_eq_zero s4.symm)
theorem some_ok {m n : Nat} {vs : List Val} (hS : Hd m S) (hm : m < 10 ^ 8) (hn : S[n]? = some (.lst vs)) (h2 : n ≠ 2) (h0 : 0 < vs.length) (h1 : vs.length ≤ 1000) : ∃ (S' : Store) (v : Val), CC (k + 4) g 21 [.obj 2, .obj n] S = .ok v S' ∧ v ∈ vs ∧ Keep S S' ∧ Hd (m + 1) S' ∧ S'.length = S.length := by
  obtain ⟨d, S2, d1, d2, d3, d4, d5⟩ := draw1 (k := k) (g := g) (mm := vs.length) hS (by omega) h0 h1
  have hn2 := d3.get h2 hn
  refine ⟨S2, vs[d], ?_, List.getElem_mem _, d3, d4, d5⟩
  rw [C_at (k := k + 1) (np := 2) (nn := 2) (body := b__law_some) rfl rfl]
  have hix := ix_o (i := (d : Nat)) (v := vs[d]) hn2 (by omega) (by rw [Int.toNat_natCast]; exact List.getElem?_eq_getElem d1)
  simp only [b_cons, b_nil, s_asg, s_par, s_sub, s_ret, s_expr, s_ife, s_whl, s_for, s_raise, s_pass, e_cst, e_glb0, e_glb1, e_glb2, e_glb3, e_var, e_tup, e_lst, e_dnew, e_bin, e_neg, e_not, e_and, e_or, e_cmp, e_chn, e_ife, e_idx, e_slc, e_rev, e_call, e_bi, e_isi, e_app, e_get2, e_lam, e_lc, l_nil, l_cons, o_none, o_some, i_seq, i_range, i_zip, bind_ok, bind_err, toF_ok, toF_err, fbind_next, fbind_ret, fbind_err, asB_ok, asI_ok, asB_err, truth_ok, truth_err, set_name, set_tup, set_nil, set_cons, fend_next, fend_ret, fend_err, List.length_cons, List.length_nil, List.length_set, List.map_cons, List.map_nil, List.cons_append, List.nil_append, List.getElem?_cons_zero, List.getElem?_cons_succ, List.set_cons_zero, List.set_cons_succ, if_true, if_false, Bool.false_eq_true, Bool.not_true, Bool.not_false, reduceIte, and_self, Nat.reduceAdd, Nat.reduceLT, Nat.reduceLeDiff, Nat.reduceSub, Nat.reduceEqDiff, List.replicate_succ, List.replicate_zero, cap, b__law_some, len_o g hn, d2, hix]
theorem toD_obj {n : Nat} {vs : List Val} (d : Nat) (hn : S[n]? = some (.lst vs)) : toD S (d + 1) (.obj n) = (vs.mapM (toD S d)).map PyData.list := by
  show (match S[n]? with | some (.lst vs) => (vs.mapM (toD S d)).map PyData.list | _ => none) = _
  rw [hn]
theorem ne_lists {a b : Nat} {L : List Nat} (ha : S[a]? = some (.lst (L.map oV))) (hb : S[b]? = some (.lst [])) : cmpop .ne (.obj a) (.obj b) S = .ok (.bl (!L.isEmpty)) S := by
  have e : eqD S (.obj a) (.obj b) = some L.isEmpty := by
    unfold eqD
    rw [show toD S deepMost (.obj a) = _ from toD_obj 11 ha, show toD S deepMost (.obj b) = _ from toD_obj 11 hb, show (L.map oV).mapM (toD S 11) = _ from mapM_outs 9 L]
    cases L with
    | nil => rfl
    | cons i L =>
      show some (PyData.eqv (.list (oD i :: L.map oD)) (.list [])) = _
      simp [PyData.eqv, PyData.eqvAll]
  show (match (eqD S (.obj a) (.obj b)).map (!·) with | some c => R.ok (Val.bl c) S | none => .stuck) = _
  rw [e]
  rfl
theorem slc_o1 {m : Nat} {vs : List Val} (hs : S[m]? = some (.lst vs)) : slcop (.obj m) none (some 1) S = .ok (.obj S.length) (S ++ [.lst (vs.take 1)]) := slc_oh hs 1
def lackCond : IE := (.cmp .gt (.call 20 (.cons (.var 0) (.cons (.cst (.int 3)) .nil))) (.cst (.int 0)))
def lackBody : IB := (.cons (.ife (.cmp .eq (.call 20 (.cons (.var 0) (.cons (.cst (.int 2)) .nil))) (.cst (.int 0))) (.cons (.ret (.var 1)) .nil) .nil) (.cons (.asg (.name 2) (.lc [3] (.var 3) (.name 3) (.seq (.var 1)) (.some lackCond))) (.cons (.ret (.ife (.cmp .ne (.var 2) (.lst .nil)) (.var 2) (.slc (.var 1) .none (.some (.cst (.int 1)))))) .nil)))
theorem lackBody_is : b__law_lacking = lackBody := rfl
theorem lacking_ok {m n : Nat} {L : List Nat} (hS : Hd m S) (hm : m < 10 ^ 8) (hn : S[n]? = some (.lst (L.map oV))) (h2 : n ≠ 2) (h0 : L ≠ []) (h7 : L.length ≤ 7) :
    ∃ (S' : Store) (n' : Nat) (L' : List Nat), CC (k + 4) g 31 [.obj 2, .obj n] S = .ok (.obj n') S' ∧ S'[n']? = some (.lst (L'.map oV)) ∧ n' ≠ 2 ∧ L'.Sublist L ∧ L' ≠ [] ∧ Keep S S' ∧ Hd (m + 8) S' := by
  obtain ⟨d, S2, d1, d2, d3, d4, d5⟩ := draw1 (k := k) (g := g) (mm := 2) hS (by omega) (by decide) (by decide)
  have d2' : CC (k + 3) g 20 [.obj 2, .int 2] S = .ok (.int (d : Nat)) S2 := d2
  have hn2 := d3.get h2 hn
  have hl2 := d4.len
  by_cases hd : d = 0
  · refine ⟨S2, n, L, ?_, hn2, h2, List.Sublist.refl L, h0, d3, d4.mono (by omega)⟩
    rw [C_at (k := k + 1) (np := 2) (nn := 4) (body := lackBody) rfl rfl]
    have e0 : (((d : Nat) : Int) == 0) = true := by rw [hd]; rfl
    simp only [b_cons, b_nil, s_asg, s_par, s_sub, s_ret, s_expr, s_ife, s_whl, s_for, s_raise, s_pass, e_cst, e_glb0, e_glb1, e_glb2, e_glb3, e_var, e_tup, e_lst, e_dnew, e_bin, e_neg, e_not, e_and, e_or, e_cmp, e_chn, e_ife, e_idx, e_slc, e_rev, e_call, e_bi, e_isi, e_app, e_get2, e_lam, e_lc, l_nil, l_cons, o_none, o_some, i_seq, i_range, i_zip, bind_ok, bind_err, toF_ok, toF_err, fbind_next, fbind_ret, fbind_err, asB_ok, asI_ok, asB_err, truth_ok, truth_err, set_name, set_tup, set_nil, set_cons, fend_next, fend_ret, fend_err, List.length_cons, List.length_nil, List.length_set, List.map_cons, List.map_nil, List.cons_append, List.nil_append, List.getElem?_cons_zero, List.getElem?_cons_succ, List.set_cons_zero, List.set_cons_succ, if_true, if_false, Bool.false_eq_true, Bool.not_true, Bool.not_false, reduceIte, and_self, Nat.reduceAdd, Nat.reduceLT, Nat.reduceLeDiff, Nat.reduceSub, Nat.reduceEqDiff, List.replicate_succ, List.replicate_zero, cap, lackBody, d2', eq_ii, e0]
  · have e0 : (((d : Nat) : Int) == 0) = false := by
      rw [beq_eq_false_iff_ne]
      omega
    obtain ⟨acc, S3, h1, ⟨r, A, a, b, c, kk, cc, hcc, hh⟩, _⟩ := lc_run (q := ⟨CC (k + 3) g, CC (k + 1) false, g⟩) (e := [some (.obj 2), some (.obj n), none, none]) (own := [3]) (elt := .var 3) (tg := .name 3) (c := .some lackCond) (src := .lst n) (S := S2) (L.map oV)
      (fun rest acc S' => ∃ r A : List Nat, rest = r.map oV ∧ acc = A.map oV ∧ (A ++ r).Sublist L ∧ Keep S2 S' ∧ ∃ cc, cc + r.length ≤ L.length ∧ Hd (m + 1 + cc) S') rfl (len_lst hn2) (by rw [List.length_map]; unfold cap; omega)
      (fun rest acc S' ⟨_, _, _, _, _, kk, _⟩ i => at_lst (kk.get h2 hn2) i)
      (fun v rest acc S' ⟨r, A, a, b, c, kk, cc, hcc, hh⟩ => by
        cases r with
        | nil => exact absurd a (by simp)
        | cons i r =>
          rw [List.map_cons] at a
          injection a with a1 a2
          rw [List.length_cons] at hcc
          obtain ⟨x, S4, x1, x2, x3, x4, x5⟩ := draw1 (k := k) (g := g) (mm := 3) hh (by omega) (by decide) (by decide)
          have x2' : CC (k + 3) g 20 [.obj 2, .int 3] S' = .ok (.int (x : Nat)) S4 := x2
          have hcond : asB (evE G LT lackCond ⟨CC (k + 3) g, CC (k + 1) false, g⟩ [some (.obj 2), some (.obj n), none, some v] S') = .ok (decide ((0 : Int) < (x : Nat))) S4 := by
            unfold lackCond
            simp only [b_cons, b_nil, s_asg, s_par, s_sub, s_ret, s_expr, s_ife, s_whl, s_for, s_raise, s_pass, e_cst, e_glb0, e_glb1, e_glb2, e_glb3, e_var, e_tup, e_lst, e_dnew, e_bin, e_neg, e_not, e_and, e_or, e_cmp, e_chn, e_ife, e_idx, e_slc, e_rev, e_call, e_bi, e_isi, e_app, e_get2, e_lam, e_lc, l_nil, l_cons, o_none, o_some, i_seq, i_range, i_zip, bind_ok, bind_err, toF_ok, toF_err, fbind_next, fbind_ret, fbind_err, asB_ok, asI_ok, asB_err, truth_ok, truth_err, set_name, set_tup, set_nil, set_cons, fend_next, fend_ret, fend_err, List.length_cons, List.length_nil, List.length_set, List.map_cons, List.map_nil, List.cons_append, List.nil_append, List.getElem?_cons_zero, List.getElem?_cons_succ, List.set_cons_zero, List.set_cons_succ, if_true, if_false, Bool.false_eq_true, Bool.not_true, Bool.not_false, reduceIte, and_self, Nat.reduceAdd, Nat.reduceLT, Nat.reduceLeDiff, Nat.reduceSub, Nat.reduceEqDiff, List.replicate_succ, List.replicate_zero, cap, x2', gt_ii]
          by_cases hx : x = 0
          · rw [show decide ((0 : Int) < (x : Nat)) = false by rw [hx]; rfl] at hcond
            refine ⟨none, S4, lcTurn_no (e2 := [some (.obj 2), some (.obj n), none, some v]) rfl hcond, r, A, a2, by rw [b]; simp, ?_, kk.trans x3, cc + 1, by omega, x4⟩
            exact (List.Sublist.append (List.Sublist.refl A) (List.sublist_cons_self i r)).trans c
          · rw [decide_eq_true (show (0 : Int) < (x : Nat) by omega)] at hcond
            refine ⟨some v, S4, lcTurn_if (e2 := [some (.obj 2), some (.obj n), none, some v]) rfl hcond rfl, r, A ++ [i], a2, ?_, ?_, kk.trans x3, cc + 1, by omega, x4⟩
            · rw [b, a1, List.map_append]
              rfl
            · rw [List.append_assoc]
              exact c)
      ⟨L, [], rfl, rfl, List.Sublist.refl L, Keep.refl S2, 0, by omega, d4⟩
    have hr0 := nil_of_map a
    subst hr0
    rw [List.append_nil] at c
    rw [b] at h1
    have k3 : Keep S2 (S3 ++ [.lst (A.map oV)] ++ [.lst []]) := (kk.trans (Keep.app _ _)).trans (Keep.app _ _)
    have hS3 : S3.length ≠ 2 := by have := hh.len; omega
    have g1 : (S3 ++ [.lst (A.map oV)] ++ [.lst []])[S3.length]? = some (.lst (A.map oV)) := app_get app_last
    have hnl := ne_lists g1 (b := (S3 ++ [Cell.lst (A.map oV)]).length) app_last
    have hsrc : seqop (.obj n) S2 = .ok (.lst n) S2 := src_lst hn2
    by_cases hA : A = []
    · have eA : A.isEmpty = true := by rw [hA]; rfl
      have g2 := k3.get h2 hn2
      refine ⟨S3 ++ [Cell.lst (A.map oV)] ++ [Cell.lst []] ++ [Cell.lst ((L.map oV).take 1)], (S3 ++ [Cell.lst (A.map oV)] ++ [Cell.lst []]).length, L.take 1, ?_, by rw [List.map_take]; exact app_last, ?_, List.take_sublist 1 L, ?_, (d3.trans k3).trans (Keep.app _ _), ?_⟩
      · rw [C_at (k := k + 1) (np := 2) (nn := 4) (body := lackBody) rfl rfl]
        simp only [b_cons, b_nil, s_asg, s_par, s_sub, s_ret, s_expr, s_ife, s_whl, s_for, s_raise, s_pass, e_cst, e_glb0, e_glb1, e_glb2, e_glb3, e_var, e_tup, e_lst, e_dnew, e_bin, e_neg, e_not, e_and, e_or, e_cmp, e_chn, e_ife, e_idx, e_slc, e_rev, e_call, e_bi, e_isi, e_app, e_get2, e_lam, e_lc, l_nil, l_cons, o_none, o_some, i_seq, i_range, i_zip, bind_ok, bind_err, toF_ok, toF_err, fbind_next, fbind_ret, fbind_err, asB_ok, asI_ok, asB_err, truth_ok, truth_err, set_name, set_tup, set_nil, set_cons, fend_next, fend_ret, fend_err, List.length_cons, List.length_nil, List.length_set, List.map_cons, List.map_nil, List.cons_append, List.nil_append, List.getElem?_cons_zero, List.getElem?_cons_succ, List.set_cons_zero, List.set_cons_succ, if_true, if_false, Bool.false_eq_true, Bool.not_true, Bool.not_false, reduceIte, and_self, Nat.reduceAdd, Nat.reduceLT, Nat.reduceLeDiff, Nat.reduceSub, Nat.reduceEqDiff, List.replicate_succ, List.replicate_zero, cap, lackBody, d2', eq_ii, e0, hsrc, h1, alloc_ok, hnl, eA, slc_o1 g2]
      · rw [List.length_append, List.length_append]
        have := hh.len
        omega
      · cases L with
        | nil => exact absurd rfl h0
        | cons i L => simp
      · exact (((hh.app _).app _).app _).mono (by omega)
    · have eA : A.isEmpty = false := by
        cases A with
        | nil => exact absurd rfl hA
        | cons i A => rfl
      refine ⟨S3 ++ [Cell.lst (A.map oV)] ++ [Cell.lst []], S3.length, A, ?_, g1, hS3, c, hA, d3.trans k3, ((hh.app _).app _).mono (by omega)⟩
      rw [C_at (k := k + 1) (np := 2) (nn := 4) (body := lackBody) rfl rfl]
      simp only [b_cons, b_nil, s_asg, s_par, s_sub, s_ret, s_expr, s_ife, s_whl, s_for, s_raise, s_pass, e_cst, e_glb0, e_glb1, e_glb2, e_glb3, e_var, e_tup, e_lst, e_dnew, e_bin, e_neg, e_not, e_and, e_or, e_cmp, e_chn, e_ife, e_idx, e_slc, e_rev, e_call, e_bi, e_isi, e_app, e_get2, e_lam, e_lc, l_nil, l_cons, o_none, o_some, i_seq, i_range, i_zip, bind_ok, bind_err, toF_ok, toF_err, fbind_next, fbind_ret, fbind_err, asB_ok, asI_ok, asB_err, truth_ok, truth_err, set_name, set_tup, set_nil, set_cons, fend_next, fend_ret, fend_err, List.length_cons, List.length_nil, List.length_set, List.map_cons, List.map_nil, List.cons_append, List.nil_append, List.getElem?_cons_zero, List.getElem?_cons_succ, List.set_cons_zero, List.set_cons_succ, if_true, if_false, Bool.false_eq_true, Bool.not_true, Bool.not_false, reduceIte, and_self, Nat.reduceAdd, Nat.reduceLT, Nat.reduceLeDiff, Nat.reduceSub, Nat.reduceEqDiff, List.replicate_succ, List.replicate_zero, cap, lackBody, d2', eq_ii, e0, hsrc, h1, alloc_ok, hnl, eA]
end
end Law
end

section
set_option Elab.async false
set_option linter.all false
set_option autoImplicit false
set_option maxRecDepth 100000
namespace Law
open PySem Ev
section
variable {k : Nat} {g : Bool} {S : Store} {q : Ev.Ctx} {e : Ev.Env}
theorem intsOf_map : ∀ xs : List Int, intsOf (xs.map Val.int) = some xs
  | [] => rfl
  | x :: xs => by
    show (intsOf (xs.map Val.int)).map _ = _
    rw [intsOf_map xs]
    rfl
theorem sum_ok {n : Nat} {xs : List Int} (hs : S[n]? = some (.lst (xs.map Val.int))) (b : Bool) : biop b .sum (.obj n) S = .ok (.int xs.sum) S := by
  show (match S[n]? with | some (.lst vs) => (match intsOf vs with | some zs => R.ok (Val.int zs.sum) S | none => .stuck) | _ => .stuck) = _
  rw [hs]
  show (match intsOf (xs.map Val.int) with | some zs => R.ok (Val.int zs.sum) S | none => .stuck) = _
  rw [intsOf_map]
theorem pow30 : binop .pow (.int 10) (.int 30) S = .ok (.int (10 ^ 30)) S := rfl
theorem zip_ll {a b : Nat} {xs ys : List Val} (ha : S[a]? = some (.lst xs)) (hb : S[b]? = some (.lst ys)) : zipop (.obj a) (.obj b) S = .ok (.zip (.lst a) (.lst b)) S := by
  have e1 : srcOf S (.obj a) = some (.lst a) := by
    show (match S[a]? with | some (.lst _) => some (Src.lst a) | _ => none) = _
    rw [ha]
  have e2 : srcOf S (.obj b) = some (.lst b) := by
    show (match S[b]? with | some (.lst _) => some (Src.lst b) | _ => none) = _
    rw [hb]
  unfold zipop
  rw [e1, e2]
theorem at_zipl {a b : Nat} {xs ys : List Val} (ha : S[a]? = some (.lst xs)) (hb : S[b]? = some (.lst ys)) (i : Nat) : (Src.zip (.lst a) (.lst b)).at S i = some ((xs.zip ys).map pr2)[i]? := by
  rw [← at_zip (S := S) xs ys i]
  show (match (Src.lst a).at S i, (Src.lst b).at S i with
    | some (some x), some (some y) => some (some (Val.tup [x, y]))
    | some none, some _ => some none
    | some (some _), some none => some none
    | _, _ => none) = _
  rw [at_lst ha, at_lst hb]
  rfl
def wElt : IE := (.call 21 (.cons (.var 0) (.cons (.lst (.cons (.cst (.int 1)) (.cons (.cst (.int 1)) (.cons (.cst (.int 2)) (.cons (.cst (.int 2)) (.cons (.cst (.int 3)) (.cons (.bin .pow (.cst (.int 10)) (.cst (.int 30))) .nil))))))) .nil)))
def wElt2 : IE := (.tup (.cons (.var 3) (.cons (.call 23 (.cons (.var 4) (.cons (.bi .sum (.var 2)) .nil))) .nil)))
def wBody : IB := (.cons (.asg (.name 2) (.lc [3] wElt (.name 3) (.seq (.var 1)) .none)) (.cons (.ret (.bi .tuple (.lc [3, 4] wElt2 (.tup (.cons (.name 3) (.cons (.name 4) .nil))) (.zip (.var 1) (.var 2)) .none))) .nil))
theorem wBody_is : b__law_weighed = wBody := rfl
theorem wElt_ok {m : Nat} (hS : Hd m S) (hm : m < 10 ^ 8) (x1 x2 x3 x4 : Option Val) : ∃ (w : Int) (S' : Store), evE G LT wElt ⟨CC (k + 4) g, CC (k + 2) false, g⟩ [some (.obj 2), x1, x2, x3, x4] S = .ok (.int w) S' ∧ 0 < w ∧ w ≤ 10 ^ 30 ∧ Keep S S' ∧ Hd (m + 1) S' := by
  have hl := hS.len
  obtain ⟨S', v, h1, h2, h3, h4, h5⟩ := some_ok (k := k) (g := g) (n := S.length) (vs := [.int 1, .int 1, .int 2, .int 2, .int 3, .int (10 ^ 30)]) (hS.app [.lst [.int 1, .int 1, .int 2, .int 2, .int 3, .int (10 ^ 30)]]) hm app_last (by omega) (by decide) (by decide)
  have hw : ∃ w : Int, v = .int w ∧ 0 < w ∧ w ≤ 10 ^ 30 := by
    simp only [List.mem_cons, List.not_mem_nil, or_false] at h2
    rcases h2 with h | h | h | h | h | h
    · exact ⟨1, h, by decide, by decide⟩
    · exact ⟨1, h, by decide, by decide⟩
    · exact ⟨2, h, by decide, by decide⟩
    · exact ⟨2, h, by decide, by decide⟩
    · exact ⟨3, h, by decide, by decide⟩
    · exact ⟨10 ^ 30, h, by decide, by decide⟩
  obtain ⟨w, hv, hw1, hw2⟩ := hw
  refine ⟨w, S', ?_, hw1, hw2, (Keep.app _ _).trans h3, h4⟩
  unfold wElt
  simp only [b_cons, b_nil, s_asg, s_par, s_sub, s_ret, s_expr, s_ife, s_whl, s_for, s_raise, s_pass, e_cst, e_glb0, e_glb1, e_glb2, e_glb3, e_var, e_tup, e_lst, e_dnew, e_bin, e_neg, e_not, e_and, e_or, e_cmp, e_chn, e_ife, e_idx, e_slc, e_rev, e_call, e_bi, e_isi, e_app, e_get2, e_lam, e_lc, l_nil, l_cons, o_none, o_some, i_seq, i_range, i_zip, bind_ok, bind_err, toF_ok, toF_err, fbind_next, fbind_ret, fbind_err, asB_ok, asI_ok, asB_err, truth_ok, truth_err, set_name, set_tup, set_nil, set_cons, fend_next, fend_ret, fend_err, List.length_cons, List.length_nil, List.length_set, List.map_cons, List.map_nil, List.cons_append, List.nil_append, List.getElem?_cons_zero, List.getElem?_cons_succ, List.set_cons_zero, List.set_cons_succ, if_true, if_false, Bool.false_eq_true, Bool.not_true, Bool.not_false, reduceIte, and_self, Nat.reduceAdd, Nat.reduceLT, Nat.reduceLeDiff, Nat.reduceSub, Nat.reduceEqDiff, List.replicate_succ, List.replicate_zero, cap, pow30, alloc_ok, h1, hv]
theorem w_lap {m n : Nat} {L : List Nat} (hS : Hd m S) (hm : m < 10 ^ 7) (hn : S[n]? = some (.lst (L.map oV))) (h2 : n ≠ 2) (h7 : L.length ≤ 7) (x2 x4 : Option Val) :
    ∃ (S' : Store) (ws : List Int), lcStart ⟨CC (k + 4) g, CC (k + 2) false, g⟩ [3] wElt (.name 3) .none [some (.obj 2), some (.obj n), x2, none, x4] (.ok (.lst n) S) = .ok (.obj S'.length) (S' ++ [.lst (ws.map Val.int)]) ∧ ws.length = L.length ∧ (∀ w ∈ ws, 0 < w ∧ w ≤ 10 ^ 30) ∧ Keep S S' ∧ Hd (m + 7) S' := by
  obtain ⟨acc, S', h1, ⟨ws, a, b, c, d, f⟩, _⟩ := lc_run (q := ⟨CC (k + 4) g, CC (k + 2) false, g⟩) (e := [some (.obj 2), some (.obj n), x2, none, x4]) (own := [3]) (elt := wElt) (tg := .name 3) (c := .none) (src := .lst n) (S := S) (L.map oV)
    (fun rest acc S' => ∃ ws : List Int, acc = ws.map Val.int ∧ ws.length + rest.length = L.length ∧ (∀ w ∈ ws, 0 < w ∧ w ≤ 10 ^ 30) ∧ Keep S S' ∧ Hd (m + ws.length) S') rfl (len_lst hn) (by rw [List.length_map]; unfold cap; omega)
    (fun _ _ S' ⟨_, _, _, _, kk, _⟩ i => at_lst (kk.get h2 hn) i)
    (fun v rest acc S' ⟨ws, a, b, c, d, f⟩ => by
      rw [List.length_cons] at b
      obtain ⟨w, S2, r1, r2, r3, r4, r5⟩ := wElt_ok (k := k) (g := g) f (by omega) (some (.obj n)) x2 (some v) x4
      refine ⟨some (.int w), S2, lcTurn_yes (e2 := [some (.obj 2), some (.obj n), x2, some v, x4]) rfl r1, ws ++ [w], ?_, by rw [List.length_append]; show ws.length + 1 + rest.length = L.length; omega, ?_, d.trans r4, ?_⟩
      · rw [a, List.map_append]
        rfl
      · intro x hx
        rcases List.mem_append.mp hx with h | h
        · exact c x h
        · rw [List.mem_singleton.mp h]
          exact ⟨r2, r3⟩
      · rw [List.length_append]
        exact r5)
    ⟨[], rfl, by rw [List.length_map]; simp, (fun _ h => nomatch h), Keep.refl S, hS⟩
  have hb : ws.length = L.length := by simpa using b
  rw [a] at h1
  exact ⟨S', ws, h1, hb, c, d, f.mono (by omega)⟩
theorem zip_fst {α β : Type} : ∀ (xs : List α) (ys : List β), ys.length = xs.length → (xs.zip ys).map (·.1) = xs
  | [], _, _ => by simp
  | x :: xs, [], h => by simp at h
  | x :: xs, y :: ys, h => by
    rw [List.zip_cons_cons, List.map_cons, zip_fst xs ys (by simpa using h)]
theorem zip_snd {α β : Type} : ∀ (xs : List α) (ys : List β), ys.length = xs.length → (xs.zip ys).map (·.2) = ys
  | [], [], _ => rfl
  | [], y :: ys, h => by simp at h
  | x :: xs, [], h => by simp at h
  | x :: xs, y :: ys, h => by
    rw [List.zip_cons_cons, List.map_cons, zip_snd xs ys (by simpa using h)]
theorem w_lap2 {n a : Nat} {L : List Nat} {ws : List Int} (hn : S[n]? = some (.lst (L.map oV))) (ha : S[a]? = some (.lst (ws.map Val.int))) (hl : ws.length = L.length) (hD : D (L.zip ws)) (x3 : Option Val) :
    ∃ J, lcStart ⟨CC (k + 4) g, CC (k + 2) false, g⟩ [3, 4] wElt2 (.tup (.cons (.name 3) (.cons (.name 4) .nil))) .none [some (.obj 2), some (.obj n), some (.obj a), x3, none] (.ok (.zip (.lst n) (.lst a)) S) = .ok (.obj (S ++ J).length) (S ++ J ++ [.lst ((L.zip ws).map fun p => prV (sh (tot (L.zip ws)) p))]) :=
  lc_map (q := ⟨CC (k + 4) g, CC (k + 2) false, g⟩) (S := S) (e := [some (.obj 2), some (.obj n), some (.obj a), x3, none]) (L.zip ws) (fun p => .tup [oV p.1, .int p.2]) (fun p => prV (sh (tot (L.zip ws)) p)) rfl
    (by
      show min ((Src.lst n).len S) ((Src.lst a).len S) = _
      rw [len_lst hn, len_lst ha, List.length_map, List.length_map, List.length_zip])
    (by have := hD.few; unfold cap; omega)
    (fun J i => by
      rw [at_zipl (app_get hn) (app_get ha), List.zip_map, List.map_map]
      rfl)
    (fun p hp J => by
      have hw := hD.w p hp
      have hpos := hD.pos
      have h31 := hD.few31
      have hsum := sum_ok (S := S ++ J) (app_get ha) g
      have ht : ws.sum = tot (L.zip ws) := by
        unfold tot
        rw [zip_snd L ws hl]
      rw [ht] at hsum
      have z : (10 : Nat) ^ 31 < WW := of_decide_eq_true rfl
      have z2 : (10 : Nat) ^ 31 < 2 ^ 200 := by decide
      have hfr := fr_ok (k := k + 1) (g := g) (S := S ++ J) p.2 (tot (L.zip ws)) hpos (by omega) (Nat.lt_trans (log_lt (n := 200) (by omega) (by decide)) (by decide))
      refine ⟨[some (.obj 2), some (.obj n), some (.obj a), some (oV p.1), some (.int p.2)], J, rfl, ?_⟩
      unfold wElt2
      simp only [b_cons, b_nil, s_asg, s_par, s_sub, s_ret, s_expr, s_ife, s_whl, s_for, s_raise, s_pass, e_cst, e_glb0, e_glb1, e_glb2, e_glb3, e_var, e_tup, e_lst, e_dnew, e_bin, e_neg, e_not, e_and, e_or, e_cmp, e_chn, e_ife, e_idx, e_slc, e_rev, e_call, e_bi, e_isi, e_app, e_get2, e_lam, e_lc, l_nil, l_cons, o_none, o_some, i_seq, i_range, i_zip, bind_ok, bind_err, toF_ok, toF_err, fbind_next, fbind_ret, fbind_err, asB_ok, asI_ok, asB_err, truth_ok, truth_err, set_name, set_tup, set_nil, set_cons, fend_next, fend_ret, fend_err, List.length_cons, List.length_nil, List.length_set, List.map_cons, List.map_nil, List.cons_append, List.nil_append, List.getElem?_cons_zero, List.getElem?_cons_succ, List.set_cons_zero, List.set_cons_succ, if_true, if_false, Bool.false_eq_true, Bool.not_true, Bool.not_false, reduceIte, and_self, Nat.reduceAdd, Nat.reduceLT, Nat.reduceLeDiff, Nat.reduceSub, Nat.reduceEqDiff, List.replicate_succ, List.replicate_zero, cap, hsum, hfr]
      rfl)
theorem weighed_ok {m n : Nat} {L : List Nat} (hS : Hd m S) (hm : m < 10 ^ 7) (hn : S[n]? = some (.lst (L.map oV))) (h2 : n ≠ 2) (ho : Outs L) (h7 : L.length ≤ 7) (h0 : L ≠ []) :
    ∃ (S' : Store) (iw : List (Nat × Int)), CC (k + 5) g 30 [.obj 2, .obj n] S = .ok (chV (dl iw)) S' ∧ D iw ∧ Keep S S' ∧ Hd (m + 7) S' := by
  obtain ⟨S1, ws, w1, w2, w3, w4, w5⟩ := w_lap (k := k) (g := g) hS hm hn h2 h7 none none
  have hD : D (L.zip ws) := by
    refine ⟨by rw [zip_fst L ws w2]; exact ho, fun p hp => w3 p.2 (List.of_mem_zip hp).2, by rw [List.length_zip]; omega, ?_⟩
    intro h
    have : (L.zip ws).length = 0 := by rw [h]; rfl
    rw [List.length_zip, w2, Nat.min_self] at this
    exact h0 (List.eq_nil_of_length_eq_zero this)
  have n1 : (S1 ++ [.lst (ws.map Val.int)])[n]? = some (.lst (L.map oV)) := app_get (w4.get h2 hn)
  obtain ⟨J, hJ⟩ := w_lap2 (k := k) (g := g) (S := S1 ++ [.lst (ws.map Val.int)]) n1 app_last w2 hD none
  refine ⟨S1 ++ [.lst (ws.map Val.int)] ++ J ++ [.lst ((L.zip ws).map fun p => prV (sh (tot (L.zip ws)) p))], L.zip ws, ?_, hD, ((w4.trans (Keep.app _ _)).trans (Keep.app _ _)).trans (Keep.app _ _), ((w5.app _).app _).app _⟩
  rw [C_at (k := k + 2) (np := 2) (nn := 5) (body := wBody) rfl rfl]
  have hz := zip_ll n1 (app_last (S := S1) (c := .lst (ws.map Val.int)))
  simp only [b_cons, b_nil, s_asg, s_par, s_sub, s_ret, s_expr, s_ife, s_whl, s_for, s_raise, s_pass, e_cst, e_glb0, e_glb1, e_glb2, e_glb3, e_var, e_tup, e_lst, e_dnew, e_bin, e_neg, e_not, e_and, e_or, e_cmp, e_chn, e_ife, e_idx, e_slc, e_rev, e_call, e_bi, e_isi, e_app, e_get2, e_lam, e_lc, l_nil, l_cons, o_none, o_some, i_seq, i_range, i_zip, bind_ok, bind_err, toF_ok, toF_err, fbind_next, fbind_ret, fbind_err, asB_ok, asI_ok, asB_err, truth_ok, truth_err, set_name, set_tup, set_nil, set_cons, fend_next, fend_ret, fend_err, List.length_cons, List.length_nil, List.length_set, List.map_cons, List.map_nil, List.cons_append, List.nil_append, List.getElem?_cons_zero, List.getElem?_cons_succ, List.set_cons_zero, List.set_cons_succ, if_true, if_false, Bool.false_eq_true, Bool.not_true, Bool.not_false, reduceIte, and_self, Nat.reduceAdd, Nat.reduceLT, Nat.reduceLeDiff, Nat.reduceSub, Nat.reduceEqDiff, List.replicate_succ, List.replicate_zero, cap, wBody, src_lst hn, w1, hz, hJ, tuple_ok app_last]
  unfold chV dl
  rw [List.map_map]
  rfl
/-- the hand at the start -/
theorem hand_lap (ns : List Int) (h : ns.length ≤ 63) : ∃ J, lcStart ⟨CC (k + 2) g, CC k false, g⟩ [2] (.bi .abs (.bi .int (.var 2))) (.name 2) .none [some (.rol (ns.map Val.int)), none, none] (.ok (.lst 0) [.lst (ns.map Val.int)]) = .ok (.obj ([.lst (ns.map Val.int)] ++ J).length) ([Cell.lst (ns.map Val.int)] ++ J ++ [.lst (ns.map fun n => .int n.natAbs)]) := by
  exact lc_map (q := ⟨CC (k + 2) g, CC k false, g⟩) (S := [.lst (ns.map Val.int)]) (e := [some (.rol (ns.map Val.int)), none, none]) ns Val.int (fun n => .int n.natAbs) rfl (List.length_map ..) (by unfold cap; omega) (fun J n => rfl) (fun n _ J => ⟨[some (.rol (ns.map Val.int)), none, some (.int n)], J, rfl, rfl⟩)
end
end Law
end

section
set_option Elab.async false
set_option linter.all false
set_option autoImplicit false
set_option maxRecDepth 100000
namespace Law
open PySem Ev
section
variable {k : Nat} {g : Bool} {S : Store} {q : Ev.Ctx} {e : Ev.Env}
/-! the hand at the start -/
theorem slc_rol (vs : List Val) (h : vs.length ≤ 63) : slcop (.rol vs) none (some 63) [] = .ok (.obj 0) [.lst vs] := by
  show alloc (.lst (cut vs none (some ((63 : Nat) : Int)))) [] = _
  rw [cut_take, List.take_of_length_le h]
  rfl
theorem hand_ok (ns : List Int) (h : ns.length ≤ 63) : ∃ c0 c1 c2 : Cell, CC (k + 3) g 19 [.rol (ns.map Val.int)] [] = .ok (.obj 2) [c0, c1, c2] ∧ Hd 0 [c0, c1, c2] := by
  obtain ⟨acc, S', h1, ⟨r, a, b, c⟩, _⟩ := lc_run (q := ⟨CC (k + 2) g, CC k false, g⟩) (e := [some (.rol (ns.map Val.int)), none, none]) (own := [2]) (elt := .bi .abs (.bi .int (.var 2))) (tg := .name 2) (c := .none) (src := .lst 0) (S := [.lst (ns.map Val.int)]) (ns.map Val.int)
    (fun rest acc S' => ∃ r : List Int, S' = [.lst (ns.map Val.int)] ∧ rest = r.map Val.int ∧ acc ++ r.map (fun n => Val.int (n.natAbs : Nat)) = ns.map fun n => Val.int (n.natAbs : Nat)) rfl rfl (by rw [List.length_map]; unfold cap; omega)
    (fun _ _ S' ⟨r, a, _⟩ i => by rw [a]; rfl)
    (fun v rest acc S' ⟨r, a, b, c⟩ => by
      cases r with
      | nil => exact absurd b (by simp)
      | cons n r =>
        rw [List.map_cons] at b
        injection b with b1 b2
        refine ⟨some (.int (n.natAbs : Nat)), S', lcTurn_yes (e2 := [some (.rol (ns.map Val.int)), none, some v]) rfl (by rw [b1]; rfl), r, a, b2, ?_⟩
        rw [← c]
        simp)
    ⟨ns, rfl, rfl, rfl⟩
  have hr0 := nil_of_map b
  subst hr0
  subst a
  have hacc : acc = ns.map fun n => Val.int (n.natAbs : Nat) := by rw [← c]; simp
  have hacc2 : acc = (ns.map fun n => ((n.natAbs : Nat) : Int)).map Val.int := by rw [hacc, List.map_map]; rfl
  have hlen : acc.length = ns.length := by rw [hacc, List.length_map]
  have h1' : lcStart ⟨CC (k + 2) g, CC k false, g⟩ [2] (.bi .abs (.bi .int (.var 2))) (.name 2) .none [some (.rol (ns.map Val.int)), none, none] (.ok (.lst 0) [.lst (ns.map Val.int)]) = .ok (.obj 1) [Cell.lst (ns.map Val.int), .lst acc] := h1
  have hsl := slc_rol (ns.map Val.int) (by rw [List.length_map]; exact h)
  have hsr : seqop (.obj 0) [Cell.lst (ns.map Val.int)] = .ok (.lst 0) [Cell.lst (ns.map Val.int)] := rfl
  have hln : biop g .len (.obj 1) [Cell.lst (ns.map Val.int), .lst acc] = .ok (.int (ns.length : Nat)) [Cell.lst (ns.map Val.int), .lst acc] := by
    rw [← hlen]
    rfl
  have hm : ∀ {S : Store}, binop .mul (.int 7) (.int (ns.length : Nat)) S = .ok (.int (7 * (ns.length : Nat))) S := mul_lt40 (by decide) (by omega)
  have hal : alloc (.lst [.obj 1, .int 0, .int 0, .int (21211 + 7 * (ns.length : Nat)), .int 0]) [Cell.lst (ns.map Val.int), .lst acc] = .ok (.obj 2) [Cell.lst (ns.map Val.int), .lst acc, .lst [.obj 1, .int 0, .int 0, .int (21211 + 7 * (ns.length : Nat)), .int 0]] := rfl
  refine ⟨Cell.lst (ns.map Val.int), .lst acc, .lst [.obj 1, .int 0, .int 0, .int (21211 + 7 * (ns.length : Nat)), .int 0], ?_, ns.map fun n => ((n.natAbs : Nat) : Int), 0, 0, _, 0, by rw [hacc2]; rfl, rfl, ?_, by decide, by decide, by omega, by omega, by decide, by decide⟩
  · rw [C_at (k := k) (np := 1) (nn := 3) (body := b__law_hand) rfl rfl]
    simp only [b_cons, b_nil, s_asg, s_par, s_sub, s_ret, s_expr, s_ife, s_whl, s_for, s_raise, s_pass, e_cst, e_glb0, e_glb1, e_glb2, e_glb3, e_var, e_tup, e_lst, e_dnew, e_bin, e_neg, e_not, e_and, e_or, e_cmp, e_chn, e_ife, e_idx, e_slc, e_rev, e_call, e_bi, e_isi, e_app, e_get2, e_lam, e_lc, l_nil, l_cons, o_none, o_some, i_seq, i_range, i_zip, bind_ok, bind_err, toF_ok, toF_err, fbind_next, fbind_ret, fbind_err, asB_ok, asI_ok, asB_err, truth_ok, truth_err, set_name, set_tup, set_nil, set_cons, fend_next, fend_ret, fend_err, List.length_cons, List.length_nil, List.length_set, List.map_cons, List.map_nil, List.cons_append, List.nil_append, List.getElem?_cons_zero, List.getElem?_cons_succ, List.set_cons_zero, List.set_cons_succ, if_true, if_false, Bool.false_eq_true, Bool.not_true, Bool.not_false, reduceIte, and_self, Nat.reduceAdd, Nat.reduceLT, Nat.reduceLeDiff, Nat.reduceSub, Nat.reduceEqDiff, List.replicate_succ, List.replicate_zero, cap, b__law_hand, hsl, hsr, h1', hln, hm, add_ii, hal]
  · intro c hc
    obtain ⟨n, _, rfl⟩ := List.mem_map.mp hc
    omega
/-! more that are no outs -/
theorem isi_tn : isiop .tuple .non S = .ok (.bl false) S := rfl
theorem isi_ts (x : Str) : isiop .tuple (.str x) S = .ok (.bl false) S := rfl
theorem isi_to {n : Nat} {vs : List Val} (h : S[n]? = some (.lst vs)) : isiop .tuple (.obj n) S = .ok (.bl false) S := by
  have e : isiV S (.obj n) .tuple = some false := by
    show (match S[n]? with | some (.lst _) => some (decide (Ty.tuple = Ty.list)) | _ => none) = _
    rw [h]
    rfl
  show (match isiV S (.obj n) .tuple with | some b => R.ok (Val.bl b) S | none => .stuck) = _
  rw [e]
theorem is_out_T (xs : List Int) : Ans (k + 4) g 9 [.tup (xs.map Val.int)] (.bl false) S := .of fun S => by
  refine ⟨[], ?_⟩
  rw [C_at (k := k + 1) (np := 1) (nn := 2) (body := b_is_out) rfl rfl, List.append_nil]
  match xs with
  | [a, b] => simp only [b_cons, b_nil, s_asg, s_par, s_sub, s_ret, s_expr, s_ife, s_whl, s_for, s_raise, s_pass, e_cst, e_glb0, e_glb1, e_glb2, e_glb3, e_var, e_tup, e_lst, e_dnew, e_bin, e_neg, e_not, e_and, e_or, e_cmp, e_chn, e_ife, e_idx, e_slc, e_rev, e_call, e_bi, e_isi, e_app, e_get2, e_lam, e_lc, l_nil, l_cons, o_none, o_some, i_seq, i_range, i_zip, bind_ok, bind_err, toF_ok, toF_err, fbind_next, fbind_ret, fbind_err, asB_ok, asI_ok, asB_err, truth_ok, truth_err, set_name, set_tup, set_nil, set_cons, fend_next, fend_ret, fend_err, List.length_cons, List.length_nil, List.length_set, List.map_cons, List.map_nil, List.cons_append, List.nil_append, List.getElem?_cons_zero, List.getElem?_cons_succ, List.set_cons_zero, List.set_cons_succ, if_true, if_false, Bool.false_eq_true, Bool.not_true, Bool.not_false, reduceIte, and_self, Nat.reduceAdd, Nat.reduceLT, Nat.reduceLeDiff, Nat.reduceSub, Nat.reduceEqDiff, List.replicate_succ, List.replicate_zero, cap, b_is_out, isi_tt, len2, ne_ii, beq_self_eq_true, ix0, isi_it]
  | [] => rfl
  | [a] => rfl
  | a :: b :: c :: r =>
    have hne : (((((a :: b :: c :: r).map Val.int).length : Nat) : Int) == 2) = false := by
      rw [beq_eq_false_iff_ne, List.length_map]
      simp only [List.length_cons]
      omega
    generalize hv : (a :: b :: c :: r).map Val.int = vs at hne
    simp only [b_cons, b_nil, s_asg, s_par, s_sub, s_ret, s_expr, s_ife, s_whl, s_for, s_raise, s_pass, e_cst, e_glb0, e_glb1, e_glb2, e_glb3, e_var, e_tup, e_lst, e_dnew, e_bin, e_neg, e_not, e_and, e_or, e_cmp, e_chn, e_ife, e_idx, e_slc, e_rev, e_call, e_bi, e_isi, e_app, e_get2, e_lam, e_lc, l_nil, l_cons, o_none, o_some, i_seq, i_range, i_zip, bind_ok, bind_err, toF_ok, toF_err, fbind_next, fbind_ret, fbind_err, asB_ok, asI_ok, asB_err, truth_ok, truth_err, set_name, set_tup, set_nil, set_cons, fend_next, fend_ret, fend_err, List.length_cons, List.length_nil, List.length_set, List.map_cons, List.map_nil, List.cons_append, List.nil_append, List.getElem?_cons_zero, List.getElem?_cons_succ, List.set_cons_zero, List.set_cons_succ, if_true, if_false, Bool.false_eq_true, Bool.not_true, Bool.not_false, reduceIte, and_self, Nat.reduceAdd, Nat.reduceLT, Nat.reduceLeDiff, Nat.reduceSub, Nat.reduceEqDiff, List.replicate_succ, List.replicate_zero, cap, b_is_out, isi_tt, len_t, ne_ii, hne]
theorem is_out_int (a : Int) : Ans (k + 4) g 9 [.int a] (.bl false) S := .of fun S => by
  refine ⟨[], ?_⟩
  rw [C_at (k := k + 1) (np := 1) (nn := 2) (body := b_is_out) rfl rfl, List.append_nil]
  simp only [b_cons, b_nil, s_asg, s_par, s_sub, s_ret, s_expr, s_ife, s_whl, s_for, s_raise, s_pass, e_cst, e_glb0, e_glb1, e_glb2, e_glb3, e_var, e_tup, e_lst, e_dnew, e_bin, e_neg, e_not, e_and, e_or, e_cmp, e_chn, e_ife, e_idx, e_slc, e_rev, e_call, e_bi, e_isi, e_app, e_get2, e_lam, e_lc, l_nil, l_cons, o_none, o_some, i_seq, i_range, i_zip, bind_ok, bind_err, toF_ok, toF_err, fbind_next, fbind_ret, fbind_err, asB_ok, asI_ok, asB_err, truth_ok, truth_err, set_name, set_tup, set_nil, set_cons, fend_next, fend_ret, fend_err, List.length_cons, List.length_nil, List.length_set, List.map_cons, List.map_nil, List.cons_append, List.nil_append, List.getElem?_cons_zero, List.getElem?_cons_succ, List.set_cons_zero, List.set_cons_succ, if_true, if_false, Bool.false_eq_true, Bool.not_true, Bool.not_false, reduceIte, and_self, Nat.reduceAdd, Nat.reduceLT, Nat.reduceLeDiff, Nat.reduceSub, Nat.reduceEqDiff, List.replicate_succ, List.replicate_zero, cap, b_is_out, isi_it]
theorem is_out_bl (T : List Val) : Ans (k + 4) g 9 [.tup [.tup T, .bl true]] (.bl false) S := .of fun S => by
  refine ⟨[], ?_⟩
  rw [C_at (k := k + 1) (np := 1) (nn := 2) (body := b_is_out) rfl rfl, List.append_nil]
  simp only [b_cons, b_nil, s_asg, s_par, s_sub, s_ret, s_expr, s_ife, s_whl, s_for, s_raise, s_pass, e_cst, e_glb0, e_glb1, e_glb2, e_glb3, e_var, e_tup, e_lst, e_dnew, e_bin, e_neg, e_not, e_and, e_or, e_cmp, e_chn, e_ife, e_idx, e_slc, e_rev, e_call, e_bi, e_isi, e_app, e_get2, e_lam, e_lc, l_nil, l_cons, o_none, o_some, i_seq, i_range, i_zip, bind_ok, bind_err, toF_ok, toF_err, fbind_next, fbind_ret, fbind_err, asB_ok, asI_ok, asB_err, truth_ok, truth_err, set_name, set_tup, set_nil, set_cons, fend_next, fend_ret, fend_err, List.length_cons, List.length_nil, List.length_set, List.map_cons, List.map_nil, List.cons_append, List.nil_append, List.getElem?_cons_zero, List.getElem?_cons_succ, List.set_cons_zero, List.set_cons_succ, if_true, if_false, Bool.false_eq_true, Bool.not_true, Bool.not_false, reduceIte, and_self, Nat.reduceAdd, Nat.reduceLT, Nat.reduceLeDiff, Nat.reduceSub, Nat.reduceEqDiff, List.replicate_succ, List.replicate_zero, cap, b_is_out, isi_tt, len2, ne_ii, beq_self_eq_true, ix0, ix1, is_integer_bl]
theorem is_out_o {n : Nat} {vs : List Val} (h : S[n]? = some (.lst vs)) : Ans (k + 4) g 9 [.obj n] (.bl false) S := fun J => by
  refine ⟨[], ?_⟩
  rw [C_at (k := k + 1) (np := 1) (nn := 2) (body := b_is_out) rfl rfl, List.append_nil]
  simp only [b_cons, b_nil, s_asg, s_par, s_sub, s_ret, s_expr, s_ife, s_whl, s_for, s_raise, s_pass, e_cst, e_glb0, e_glb1, e_glb2, e_glb3, e_var, e_tup, e_lst, e_dnew, e_bin, e_neg, e_not, e_and, e_or, e_cmp, e_chn, e_ife, e_idx, e_slc, e_rev, e_call, e_bi, e_isi, e_app, e_get2, e_lam, e_lc, l_nil, l_cons, o_none, o_some, i_seq, i_range, i_zip, bind_ok, bind_err, toF_ok, toF_err, fbind_next, fbind_ret, fbind_err, asB_ok, asI_ok, asB_err, truth_ok, truth_err, set_name, set_tup, set_nil, set_cons, fend_next, fend_ret, fend_err, List.length_cons, List.length_nil, List.length_set, List.map_cons, List.map_nil, List.cons_append, List.nil_append, List.getElem?_cons_zero, List.getElem?_cons_succ, List.set_cons_zero, List.set_cons_succ, if_true, if_false, Bool.false_eq_true, Bool.not_true, Bool.not_false, reduceIte, and_self, Nat.reduceAdd, Nat.reduceLT, Nat.reduceLeDiff, Nat.reduceSub, Nat.reduceEqDiff, List.replicate_succ, List.replicate_zero, cap, b_is_out, isi_to (app_get h)]
theorem are_outs_no' (ps : List (Val × Bool)) (hc : ps.length ≤ cap) (h : ∀ p ∈ ps, Ans (k + 4) g 9 [p.1] (.bl p.2) S) (hn : ps.all (·.2) = false) : Ans (k + 5) g 10 [.tup (ps.map (·.1))] (.bl false) S := fun J0 => by
  obtain ⟨J, hJ⟩ := lc_map (q := ⟨CC (k + 4) g, CC (k + 2) false, g⟩) (S := S ++ J0) (e := [some (.tup (ps.map (·.1))), none, none, none]) (own := [3]) (elt := .call 9 (.cons (.var 3) .nil)) (tg := .name 3) (src := .tup (ps.map (·.1))) ps (·.1) (fun p => .bl p.2) rfl (List.length_map ..) hc (fun J n => rfl) (fun p hp J => by
    obtain ⟨J', h'⟩ := (h p hp).app J0 J
    refine ⟨[some (.tup (ps.map (·.1))), none, none, some p.1], J ++ J', rfl, ?_⟩
    simp only [b_cons, b_nil, s_asg, s_par, s_sub, s_ret, s_expr, s_ife, s_whl, s_for, s_raise, s_pass, e_cst, e_glb0, e_glb1, e_glb2, e_glb3, e_var, e_tup, e_lst, e_dnew, e_bin, e_neg, e_not, e_and, e_or, e_cmp, e_chn, e_ife, e_idx, e_slc, e_rev, e_call, e_bi, e_isi, e_app, e_get2, e_lam, e_lc, l_nil, l_cons, o_none, o_some, i_seq, i_range, i_zip, bind_ok, bind_err, toF_ok, toF_err, fbind_next, fbind_ret, fbind_err, asB_ok, asI_ok, asB_err, truth_ok, truth_err, set_name, set_tup, set_nil, set_cons, fend_next, fend_ret, fend_err, List.length_cons, List.length_nil, List.length_set, List.map_cons, List.map_nil, List.cons_append, List.nil_append, List.getElem?_cons_zero, List.getElem?_cons_succ, List.set_cons_zero, List.set_cons_succ, if_true, if_false, Bool.false_eq_true, Bool.not_true, Bool.not_false, reduceIte, and_self, Nat.reduceAdd, Nat.reduceLT, Nat.reduceLeDiff, Nat.reduceSub, Nat.reduceEqDiff, List.replicate_succ, List.replicate_zero, cap, h']
    rw [List.append_assoc])
  refine ⟨J ++ [.lst (ps.map fun p => .bl p.2)], ?_⟩
  rw [C_at (k := k + 2) (np := 1) (nn := 4) (body := b_are_outs) rfl rfl]
  simp only [b_cons, b_nil, s_asg, s_par, s_sub, s_ret, s_expr, s_ife, s_whl, s_for, s_raise, s_pass, e_cst, e_glb0, e_glb1, e_glb2, e_glb3, e_var, e_tup, e_lst, e_dnew, e_bin, e_neg, e_not, e_and, e_or, e_cmp, e_chn, e_ife, e_idx, e_slc, e_rev, e_call, e_bi, e_isi, e_app, e_get2, e_lam, e_lc, l_nil, l_cons, o_none, o_some, i_seq, i_range, i_zip, bind_ok, bind_err, toF_ok, toF_err, fbind_next, fbind_ret, fbind_err, asB_ok, asI_ok, asB_err, truth_ok, truth_err, set_name, set_tup, set_nil, set_cons, fend_next, fend_ret, fend_err, List.length_cons, List.length_nil, List.length_set, List.map_cons, List.map_nil, List.cons_append, List.nil_append, List.getElem?_cons_zero, List.getElem?_cons_succ, List.set_cons_zero, List.set_cons_succ, if_true, if_false, Bool.false_eq_true, Bool.not_true, Bool.not_false, reduceIte, and_self, Nat.reduceAdd, Nat.reduceLT, Nat.reduceLeDiff, Nat.reduceSub, Nat.reduceEqDiff, List.replicate_succ, List.replicate_zero, cap, b_are_outs, isi_tt, seq_t, hJ, all_ok (fun p : Val × Bool => p.2) ps app_last, hn]
  rw [List.append_assoc]
theorem are_chances_no2' (ps : List (Val × Val)) (hc : ps.length ≤ cap) (h : Ans (k + 7) g 10 [.tup (ps.map (·.1))] (.bl false) S) : Ans (k + 8) g 11 [.tup (ps.map pr2)] (.bl false) S := fun J0 => by
  obtain ⟨J, hJ⟩ := lap1 (S := S ++ J0) (ps.map fun p => [p.1, p.2]) (by rw [List.length_map]; exact hc) none none none ⟨CC (k + 7) g, CC (k + 5) false, g⟩
  rw [← pr2_tup] at hJ
  obtain ⟨J2, hJ2⟩ := lap2 (S := S ++ J0 ++ J ++ [.lst ((ps.map fun p => [p.1, p.2]).map fun w => .bl ((w.length : Int) == 2))]) ps (.tup (ps.map pr2)) hc none none none ⟨CC (k + 7) g, CC (k + 5) false, g⟩
  obtain ⟨J3, hJ3⟩ := ((((h.app J0).app J).app [.lst ((ps.map fun p => [p.1, p.2]).map fun w => .bl ((w.length : Int) == 2))]).app J2).app [.lst (ps.map (·.1))] |>.now
  generalize hS1 : S ++ J0 ++ J ++ [.lst ((ps.map fun p => [p.1, p.2]).map fun w => .bl ((w.length : Int) == 2))] = S1 at hJ hJ2 hJ3
  have ha : biop g .all (.obj (S ++ J0 ++ J).length) S1 = .ok (.bl true) S1 := by
    rw [← hS1, all_ok (fun w : List Val => (w.length : Int) == 2) (ps.map fun p => [p.1, p.2]) app_last, len_two]
  refine ⟨J ++ [.lst ((ps.map fun p => [p.1, p.2]).map fun w => .bl ((w.length : Int) == 2))] ++ J2 ++ [.lst (ps.map (·.1))] ++ J3, ?_⟩
  rw [C_at (k := k + 5) (np := 1) (nn := 5) (body := chBody) rfl rfl]
  simp only [b_cons, b_nil, s_asg, s_par, s_sub, s_ret, s_expr, s_ife, s_whl, s_for, s_raise, s_pass, e_cst, e_glb0, e_glb1, e_glb2, e_glb3, e_var, e_tup, e_lst, e_dnew, e_bin, e_neg, e_not, e_and, e_or, e_cmp, e_chn, e_ife, e_idx, e_slc, e_rev, e_call, e_bi, e_isi, e_app, e_get2, e_lam, e_lc, l_nil, l_cons, o_none, o_some, i_seq, i_range, i_zip, bind_ok, bind_err, toF_ok, toF_err, fbind_next, fbind_ret, fbind_err, asB_ok, asI_ok, asB_err, truth_ok, truth_err, set_name, set_tup, set_nil, set_cons, fend_next, fend_ret, fend_err, List.length_cons, List.length_nil, List.length_set, List.map_cons, List.map_nil, List.cons_append, List.nil_append, List.getElem?_cons_zero, List.getElem?_cons_succ, List.set_cons_zero, List.set_cons_succ, if_true, if_false, Bool.false_eq_true, Bool.not_true, Bool.not_false, reduceIte, and_self, Nat.reduceAdd, Nat.reduceLT, Nat.reduceLeDiff, Nat.reduceSub, Nat.reduceEqDiff, List.replicate_succ, List.replicate_zero, cap, chBody, isi_tt, seq_t, hJ, ha, hJ2, tuple_ok app_last, hJ3]
  rw [← hS1]
  simp only [List.append_assoc]
theorem are_chances_no3' (ts : List ((Val × Val) × Bool)) (hc : ts.length ≤ cap) (h : ∀ S, Ans (k + 7) g 10 [.tup (ts.map (·.1.1))] (.bl true) S) (hb : ∀ t ∈ ts, ChAt k g t.1.2 t.2) (hn : ts.all (·.2) = false) : Ans (k + 8) g 11 [.tup (ts.map fun t => pr2 t.1)] (.bl false) S := .of fun S => by
  have hps : ts.map (fun t => pr2 t.1) = (ts.map (·.1)).map pr2 := by rw [List.map_map]; rfl
  have hfst : ts.map (·.1.1) = (ts.map (·.1)).map (·.1) := by rw [List.map_map]; rfl
  rw [hps]
  rw [hfst] at h
  have hc' : (ts.map (·.1)).length ≤ cap := by rw [List.length_map]; exact hc
  obtain ⟨J, hJ⟩ := lap1 (S := S) ((ts.map (·.1)).map fun p => [p.1, p.2]) (by rw [List.length_map]; exact hc') none none none ⟨CC (k + 7) g, CC (k + 5) false, g⟩
  rw [← pr2_tup] at hJ
  generalize hS1 : S ++ J ++ [.lst (((ts.map (·.1)).map fun p => [p.1, p.2]).map fun w => .bl ((w.length : Int) == 2))] = S1 at hJ
  have ha : biop g .all (.obj (S ++ J).length) S1 = .ok (.bl true) S1 := by
    rw [← hS1, all_ok (fun w : List Val => (w.length : Int) == 2) ((ts.map (·.1)).map fun p => [p.1, p.2]) app_last, len_two]
  obtain ⟨J2, hJ2⟩ := lap2 (S := S1) (ts.map (·.1)) (.tup ((ts.map (·.1)).map pr2)) hc' none none none ⟨CC (k + 7) g, CC (k + 5) false, g⟩
  obtain ⟨J3, hJ3⟩ := (h (S1 ++ J2 ++ [.lst ((ts.map (·.1)).map (·.1))])).now
  obtain ⟨J4, hJ4⟩ := lc_map (q := ⟨CC (k + 7) g, CC (k + 5) false, g⟩) (S := S1 ++ J2 ++ [.lst ((ts.map (·.1)).map (·.1))] ++ J3) (e := [some (.tup ((ts.map (·.1)).map pr2)), none, none, none, none]) (own := [4]) (elt := elt3) (tg := .name 4) (src := .tup ((ts.map (·.1)).map pr2)) ts (fun t => pr2 t.1) (fun t => .bl t.2) rfl (by rw [← hps]; exact List.length_map ..) hc (fun J n => by rw [hps]; rfl) (fun t ht J => ⟨[some (.tup ((ts.map (·.1)).map pr2)), none, none, none, some (pr2 t.1)], J, rfl, hb t ht _ _ _ _ _ _⟩)
  refine ⟨J ++ [.lst (((ts.map (·.1)).map fun p => [p.1, p.2]).map fun w => .bl ((w.length : Int) == 2))] ++ J2 ++ [.lst ((ts.map (·.1)).map (·.1))] ++ J3 ++ J4 ++ [.lst (ts.map fun t => .bl t.2)], ?_⟩
  rw [C_at (k := k + 5) (np := 1) (nn := 5) (body := chBody) rfl rfl]
  generalize hps2 : (ts.map (·.1)).map pr2 = pv at hJ hJ2 hJ3 hJ4
  generalize hfs2 : (ts.map (·.1)).map (·.1) = fv at hJ2 hJ3 hJ4
  simp only [b_cons, b_nil, s_asg, s_par, s_sub, s_ret, s_expr, s_ife, s_whl, s_for, s_raise, s_pass, e_cst, e_glb0, e_glb1, e_glb2, e_glb3, e_var, e_tup, e_lst, e_dnew, e_bin, e_neg, e_not, e_and, e_or, e_cmp, e_chn, e_ife, e_idx, e_slc, e_rev, e_call, e_bi, e_isi, e_app, e_get2, e_lam, e_lc, l_nil, l_cons, o_none, o_some, i_seq, i_range, i_zip, bind_ok, bind_err, toF_ok, toF_err, fbind_next, fbind_ret, fbind_err, asB_ok, asI_ok, asB_err, truth_ok, truth_err, set_name, set_tup, set_nil, set_cons, fend_next, fend_ret, fend_err, List.length_cons, List.length_nil, List.length_set, List.map_cons, List.map_nil, List.cons_append, List.nil_append, List.getElem?_cons_zero, List.getElem?_cons_succ, List.set_cons_zero, List.set_cons_succ, if_true, if_false, Bool.false_eq_true, Bool.not_true, Bool.not_false, reduceIte, and_self, Nat.reduceAdd, Nat.reduceLT, Nat.reduceLeDiff, Nat.reduceSub, Nat.reduceEqDiff, List.replicate_succ, List.replicate_zero, cap, chBody, isi_tt, seq_t, hJ, ha, hJ2, tuple_ok app_last, hJ3, hJ4, all_ok (fun t : (Val × Val) × Bool => t.2) ts app_last, hn]
  rw [← hS1]
  simp only [List.append_assoc]
theorem up_adj : ∀ {l : List Nat}, adj l = true → l.Pairwise (· < ·)
  | [], _ => .nil
  | [_], _ => List.pairwise_singleton _ _
  | a :: b :: l, h => by
    unfold adj at h
    simp only [List.drop_succ_cons, List.drop_zero, List.zip_cons_cons, List.all_cons, Bool.and_eq_true, decide_eq_true_eq] at h
    obtain ⟨h1, h2⟩ := h
    have h3 : (b :: l).Pairwise (· < ·) := up_adj (by
      unfold adj
      rw [List.drop_succ_cons, List.drop_zero]
      exact h2)
    rw [List.pairwise_cons]
    refine ⟨fun x hx => ?_, h3⟩
    rcases List.mem_cons.mp hx with rfl | hx'
    · exact h1
    · exact Nat.lt_trans h1 ((List.pairwise_cons.mp h3).1 x hx')
theorem adj_no {l : List Nat} (h : ¬ l.Pairwise (· < ·)) : adj l = false := by
  cases ha : adj l with
  | false => rfl
  | true => exact absurd (up_adj ha) h
end
end Law
end

section
set_option Elab.async false
set_option linter.all false
set_option autoImplicit false
set_option maxRecDepth 100000
namespace Law
open PySem Ev
section
variable {k : Nat} {g : Bool} {S : Store} {q : Ev.Ctx} {e : Ev.Env}
/-- no chances, at each later store -/
def Bad (S : Store) (v : Val) : Prop := ∀ (k : Nat) (g : Bool) (S' : Store), Keep S S' → Ans (k + 8) g 11 [v] (.bl false) S'
theorem Bad.keep {v : Val} {S' : Store} (h : Bad S v) (hk : Keep S S') : Bad S' v := fun k g S2 h2 => h k g S2 (hk.trans h2)
theorem chAt_w {w s : Int} (h0 : 0 < w) (h1 : w ≤ s) (h2 : s ≤ 10 ^ 31) : ChAt k g (fV (rd w s)) true := by
  have hs : 0 < s := by omega
  have z : (10 : Nat) ^ 31 < WW := of_decide_eq_true rfl
  have c := rd_cross w s hs
  have d := rd_pos w s hs
  refine chAt_ok (rd_Fr w s hs (by omega)) (rd_num_pos h0 hs) ?_
  have : (rd w s).1 * s ≤ (rd w s).2 * s := by
    rw [c, Int.mul_comm]
    exact Int.mul_le_mul_of_nonneg_left h1 (Int.le_of_lt d)
  exact Int.le_of_mul_le_mul_right this hs
theorem bad_non : Bad S .non := fun k g S' _ => .of fun S => by
  refine ⟨[], ?_⟩
  rw [C_at (k := k + 5) (np := 1) (nn := 5) (body := chBody) rfl rfl, List.append_nil]
  simp only [b_cons, b_nil, s_asg, s_par, s_sub, s_ret, s_expr, s_ife, s_whl, s_for, s_raise, s_pass, e_cst, e_glb0, e_glb1, e_glb2, e_glb3, e_var, e_tup, e_lst, e_dnew, e_bin, e_neg, e_not, e_and, e_or, e_cmp, e_chn, e_ife, e_idx, e_slc, e_rev, e_call, e_bi, e_isi, e_app, e_get2, e_lam, e_lc, l_nil, l_cons, o_none, o_some, i_seq, i_range, i_zip, bind_ok, bind_err, toF_ok, toF_err, fbind_next, fbind_ret, fbind_err, asB_ok, asI_ok, asB_err, truth_ok, truth_err, set_name, set_tup, set_nil, set_cons, fend_next, fend_ret, fend_err, List.length_cons, List.length_nil, List.length_set, List.map_cons, List.map_nil, List.cons_append, List.nil_append, List.getElem?_cons_zero, List.getElem?_cons_succ, List.set_cons_zero, List.set_cons_succ, if_true, if_false, Bool.false_eq_true, Bool.not_true, Bool.not_false, reduceIte, and_self, Nat.reduceAdd, Nat.reduceLT, Nat.reduceLeDiff, Nat.reduceSub, Nat.reduceEqDiff, List.replicate_succ, List.replicate_zero, cap, chBody, isi_tn]
theorem bad_str (x : Str) : Bad S (.str x) := fun k g S' _ => .of fun S => by
  refine ⟨[], ?_⟩
  rw [C_at (k := k + 5) (np := 1) (nn := 5) (body := chBody) rfl rfl, List.append_nil]
  simp only [b_cons, b_nil, s_asg, s_par, s_sub, s_ret, s_expr, s_ife, s_whl, s_for, s_raise, s_pass, e_cst, e_glb0, e_glb1, e_glb2, e_glb3, e_var, e_tup, e_lst, e_dnew, e_bin, e_neg, e_not, e_and, e_or, e_cmp, e_chn, e_ife, e_idx, e_slc, e_rev, e_call, e_bi, e_isi, e_app, e_get2, e_lam, e_lc, l_nil, l_cons, o_none, o_some, i_seq, i_range, i_zip, bind_ok, bind_err, toF_ok, toF_err, fbind_next, fbind_ret, fbind_err, asB_ok, asI_ok, asB_err, truth_ok, truth_err, set_name, set_tup, set_nil, set_cons, fend_next, fend_ret, fend_err, List.length_cons, List.length_nil, List.length_set, List.map_cons, List.map_nil, List.cons_append, List.nil_append, List.getElem?_cons_zero, List.getElem?_cons_succ, List.set_cons_zero, List.set_cons_succ, if_true, if_false, Bool.false_eq_true, Bool.not_true, Bool.not_false, reduceIte, and_self, Nat.reduceAdd, Nat.reduceLT, Nat.reduceLeDiff, Nat.reduceSub, Nat.reduceEqDiff, List.replicate_succ, List.replicate_zero, cap, chBody, isi_ts]
theorem bad_obj {o : Nat} {vs : List Val} (h2 : o ≠ 2) (h : S[o]? = some (.lst vs)) : Bad S (.obj o) := fun k g S' hk J => by
  refine ⟨[], ?_⟩
  rw [C_at (k := k + 5) (np := 1) (nn := 5) (body := chBody) rfl rfl, List.append_nil]
  simp only [b_cons, b_nil, s_asg, s_par, s_sub, s_ret, s_expr, s_ife, s_whl, s_for, s_raise, s_pass, e_cst, e_glb0, e_glb1, e_glb2, e_glb3, e_var, e_tup, e_lst, e_dnew, e_bin, e_neg, e_not, e_and, e_or, e_cmp, e_chn, e_ife, e_idx, e_slc, e_rev, e_call, e_bi, e_isi, e_app, e_get2, e_lam, e_lc, l_nil, l_cons, o_none, o_some, i_seq, i_range, i_zip, bind_ok, bind_err, toF_ok, toF_err, fbind_next, fbind_ret, fbind_err, asB_ok, asI_ok, asB_err, truth_ok, truth_err, set_name, set_tup, set_nil, set_cons, fend_next, fend_ret, fend_err, List.length_cons, List.length_nil, List.length_set, List.map_cons, List.map_nil, List.cons_append, List.nil_append, List.getElem?_cons_zero, List.getElem?_cons_succ, List.set_cons_zero, List.set_cons_succ, if_true, if_false, Bool.false_eq_true, Bool.not_true, Bool.not_false, reduceIte, and_self, Nat.reduceAdd, Nat.reduceLT, Nat.reduceLeDiff, Nat.reduceSub, Nat.reduceEqDiff, List.replicate_succ, List.replicate_zero, cap, chBody, isi_to (app_get (hk.get h2 h))]
theorem bad_nil : Bad S (.tup []) := fun k g S' _ => by
  have := are_chances_gen (k := k) (g := g) (S := S') 1 (by decide) (by decide) [] (fun _ h => nomatch h) (by decide) ⟨(fun _ h => nomatch h), .nil, by decide⟩
  rw [decide_eq_false (show ¬ tot [] = 1 by decide)] at this
  exact this
theorem prV_pr2 (ps : List (Nat × Frac)) : ps.map prV = (ps.map fun p => (oV p.1, fV p.2)).map pr2 := by
  rw [List.map_map]
  rfl
theorem prV_fst (ps : List (Nat × Frac)) : (ps.map fun p => (oV p.1, fV p.2)).map (·.1) = (ps.map (·.1)).map oV := by
  rw [List.map_map, List.map_map]
  rfl
theorem bad_order (ps : List (Nat × Frac)) (h1 : ∀ i ∈ ps.map (·.1), i < 65) (h2 : ps.length ≤ 70) (h3 : ¬ (ps.map (·.1)).Pairwise (· < ·)) : Bad S (.tup (ps.map prV)) := fun k g S' _ => by
  rw [prV_pr2]
  refine are_chances_no2' _ (by rw [List.length_map]; unfold cap; omega) ?_
  rw [prV_fst]
  have := are_outs_ok (k := k + 2) (g := g) (S := S') (ps.map (·.1)) h1 (by rw [List.length_map]; exact h2)
  rwa [adj_no h3] at this
theorem cap1 : 1 ≤ cap := by decide
theorem cap2 : 2 ≤ cap := by decide
theorem all_no {α : Type} (x : α) (xs : List (α × Bool)) : ((x, false) :: xs).all (·.2) = false := by
  rw [List.all_cons]
  rfl
theorem bad_one (ws : List Val) (h : (ws.length : Int) ≠ 2) : Bad S (.tup [.tup ws]) := fun k g S' _ => by
  refine are_chances_no1 (k := k) (g := g) (S := S') [ws] cap1 ?_
  simp only [List.all_cons, List.all_nil, Bool.and_true, beq_eq_false_iff_ne]
  exact h
theorem bad_pair (i : Nat) (x : Frac) : Bad S (.tup [oV i, fV x]) := fun k g S' _ => by
  refine are_chances_no2' (k := k) (g := g) (S := S') [(.tup ((oX i).map Val.int), .int (oI i)), (.int x.1, .int x.2)] cap2 ?_
  refine are_outs_no' (k := k + 2) [(.tup ((oX i).map Val.int), false), (.int x.1, false)] cap2 (fun p hp => ?_) (all_no _ _)
  simp only [List.mem_cons, List.not_mem_nil, or_false] at hp
  rcases hp with rfl | rfl
  · exact is_out_T (oX i)
  · exact is_out_int x.1
theorem bad_head (v c : Val) (ps : List (Nat × Frac)) (h2 : ps.length ≤ 70) (h : ∀ (k : Nat) (g : Bool) (S' : Store), Keep S S' → Ans (k + 4) g 9 [v] (.bl false) S') : Bad S (.tup (.tup [v, c] :: ps.map prV)) := by
  intro k g S' hk
  have e0 : Val.tup [v, c] :: ps.map prV = ((v, c) :: ps.map fun p => (oV p.1, fV p.2)).map pr2 := by
    rw [prV_pr2, List.map_cons]
    rfl
  have hlen0 : ((v, c) :: ps.map fun p => (oV p.1, fV p.2)).length ≤ cap := by
    rw [List.length_cons, List.length_map]
    unfold cap
    omega
  have hlen : ((v, false) :: ps.map fun p => (oV p.1, true)).length ≤ cap := by
    rw [List.length_cons, List.length_map]
    unfold cap
    omega
  have h9 : ∀ p ∈ ((v, false) :: ps.map fun p => (oV p.1, true)), Ans (k + 2 + 4) g 9 [p.1] (.bl p.2) S' := by
    intro p hp
    rcases List.mem_cons.mp hp with rfl | hp'
    · exact h (k + 2) g S' hk
    · obtain ⟨p', _, rfl⟩ := List.mem_map.mp hp'
      exact is_out_oV (k := k + 2) p'.1
  have e : ((v, false) :: ps.map fun p => (oV p.1, true)).map (·.1) = ((v, c) :: ps.map fun p => (oV p.1, fV p.2)).map (·.1) := by
    rw [List.map_cons, List.map_cons, List.map_map, List.map_map]
    rfl
  have h10 := are_outs_no' (k := k + 2) (g := g) (S := S') ((v, false) :: ps.map fun p => (oV p.1, true)) hlen h9 (all_no _ _)
  rw [e] at h10
  rw [e0]
  generalize ((v, c) :: ps.map fun p => (oV p.1, fV p.2)) = L at *
  exact are_chances_no2' (k := k) (g := g) (S := S') L hlen0 h10
theorem bad_first (i : Nat) (x : Frac) (r : List (Nat × Int)) (s : Int) (ho : Outs (i :: r.map (·.1))) (hw : ∀ p ∈ r, 0 < p.2 ∧ p.2 ≤ s) (hs : s ≤ 10 ^ 31) (hx : ∀ k g, ChAt k g (fV x) false) : Bad S (.tup (.tup [oV i, fV x] :: (r.map (sh s)).map prV)) := fun k g S' _ => by
  have hc : (((oV i, fV x), false) :: r.map fun p => ((oV p.1, fV (rd p.2 s)), true)).length ≤ cap := by
    have := ho.few
    rw [List.length_cons, List.length_map] at this
    rw [List.length_cons, List.length_map]
    unfold cap
    omega
  have h3 := are_chances_no3' (k := k) (g := g) (S := S') (((oV i, fV x), false) :: r.map fun p => ((oV p.1, fV (rd p.2 s)), true)) hc (fun S => by
    have e : (((oV i, fV x), false) :: r.map fun p => ((oV p.1, fV (rd p.2 s)), true)).map (·.1.1) = (i :: r.map (·.1)).map oV := by
      rw [List.map_cons, List.map_cons, List.map_map, List.map_map]
      rfl
    rw [e]
    have := are_outs_ok (k := k + 2) (g := g) (S := S) (i :: r.map (·.1)) ho.lt ho.few
    rwa [adj_up ho.up] at this) (fun t ht => by
    rcases List.mem_cons.mp ht with rfl | ht'
    · exact hx k g
    · obtain ⟨p, hp, rfl⟩ := List.mem_map.mp ht'
      exact chAt_w (hw p hp).1 (hw p hp).2 hs) (all_no _ _)
  have e : (((oV i, fV x), false) :: r.map fun p => ((oV p.1, fV (rd p.2 s)), true)).map (fun t => pr2 t.1) = .tup [oV i, fV x] :: (r.map (sh s)).map prV := by
    rw [List.map_cons, List.map_map, List.map_map]
    rfl
  rwa [e] at h3
theorem bad_rest (p0 : Nat × Int) (r : List (Nat × Int)) (h : D (p0 :: r)) : Bad S (.tup ((r.map (sh (tot (p0 :: r)))).map prV)) := fun k g S' _ => by
  have hp := h.pos
  have h31 := h.few31
  have h0 := (h.w p0 (List.mem_cons_self ..)).1
  have ho := h.outs
  rw [List.map_cons] at ho
  have hr : ∀ p ∈ r, 0 < p.2 := fun p hp => (h.w p (List.mem_cons_of_mem _ hp)).1
  have ht := tot_cons p0 r
  have := are_chances_gen (k := k) (g := g) (S := S') (tot (p0 :: r)) hp (by omega) r (fun p hp => ⟨hr p hp, by have := le_tot hr p hp; omega⟩) (by omega) ⟨fun i hi => ho.lt i (List.mem_cons_of_mem _ hi), (List.pairwise_cons.mp ho.up).2, by have := ho.few; rw [List.length_cons] at this; omega⟩
  rw [decide_eq_false (show ¬ tot r = tot (p0 :: r) by omega)] at this
  exact this
theorem bad_13 : Bad S (.tup [.tup [oV 2, fV (1, 2)], .tup [oV 3, fV (1, 3)]]) := fun k g S' _ => by
  have := are_chances_gen (k := k) (g := g) (S := S') 6 (by decide) (by decide) [(2, 3), (3, 2)] (by decide) (by decide) ⟨by decide, by decide, by decide⟩
  rw [decide_eq_false (show ¬ tot [(2, 3), (3, 2)] = 6 by decide)] at this
  exact this
theorem bad_14 : Bad S (.tup [.tup [oV 2, fV (3, 2)], .tup [oV 3, fV (-1, 2)]]) := fun k g S' _ => by
  refine are_chances_no3' (k := k) (g := g) (S := S') [((oV 2, fV (3, 2)), false), ((oV 3, fV (-1, 2)), false)] cap2 (fun S => ?_) (fun t ht => ?_) (all_no _ _)
  · have := are_outs_ok (k := k + 2) (g := g) (S := S) [2, 3] (by decide) (by decide)
    rwa [show adj [2, 3] = true from rfl] at this
  · have z : (2 : Int).natAbs < WW := of_decide_eq_true rfl
    simp only [List.mem_cons, List.not_mem_nil, or_false] at ht
    rcases ht with rfl | rfl
    · exact chAt_big ⟨by decide, z, by decide⟩ (by decide)
    · exact chAt_neg ⟨by decide, z, by decide⟩ (by decide)
theorem chAt_two {w s : Int} (hs : 0 < s) (h2 : s ≤ 10 ^ 31) : ChAt k g (fV (2 * (rd w s).1, 2 * (rd w s).2)) false := by
  have hp := rd_pos w s hs
  have hle := (rd_le w s hs).2
  have z : 2 * (10 : Nat) ^ 31 < WW := of_decide_eq_true rfl
  refine chAt_no (by show 0 < 2 * (rd w s).2; omega) (by show (2 * (rd w s).2).natAbs < WW; omega) ?_
  show Nat.gcd (2 * (rd w s).1).natAbs (2 * (rd w s).2).natAbs ≠ 1
  rw [Int.natAbs_mul, Int.natAbs_mul, show (2 : Int).natAbs = 2 from rfl, Nat.gcd_mul_left]
  omega
/-! the list of bent ones -/
def bS1 : IS := match b__law_bent with | .cons a _ => a | _ => .pass
def bS2 : IS := match b__law_bent with | .cons _ (.cons a _) => a | _ => .pass
def bS3 : IS := match b__law_bent with | .cons _ (.cons _ (.cons a _)) => a | _ => .pass
def bS4 : IS := match b__law_bent with | .cons _ (.cons _ (.cons _ (.cons a _))) => a | _ => .pass
def bS5 : IS := match b__law_bent with | .cons _ (.cons _ (.cons _ (.cons _ (.cons a _)))) => a | _ => .pass
def bS6 : IS := match b__law_bent with | .cons _ (.cons _ (.cons _ (.cons _ (.cons _ (.cons a _))))) => a | _ => .pass
theorem b_bent : b__law_bent = .cons bS1 (.cons bS2 (.cons bS3 (.cons bS4 (.cons bS5 (.cons bS6 .nil))))) := rfl
theorem rev_t (vs : List Val) : revop (.tup vs) S = .ok (.tup vs.reverse) S := rfl
theorem list_t (b : Bool) (vs : List Val) : biop b .list (.tup vs) S = .ok (.obj S.length) (S ++ [.lst vs]) := rfl
theorem slc_h1 (P : Val) (R : List Val) : slcop (.tup (P :: R)) none (some 1) S = .ok (.tup [P]) S := slc_th (P :: R) 1
theorem slc_r1 (P : Val) (R : List Val) : slcop (.tup (P :: R)) (some 1) none S = .ok (.tup R) S := slc_t1 (P :: R)
theorem add_xs {xs ys : List Val} (h : xs.length + ys.length ≤ 1000) : binop .add (.tup xs) (.tup ys) S = .ok (.tup (xs ++ ys)) S := by
  show (if xs.length + ys.length ≤ cap then R.ok (Val.tup (xs ++ ys)) S else .stuck) = _
  rw [if_pos (show xs.length + ys.length ≤ cap by unfold cap; omega)]
section
variable {h T : Val} {v a b : Int} {R : List Val} {x2 : Option Val}
/-- the first pair -/
def P0 (T : Val) (v a b : Int) : Val := .tup [.tup [T, .int v], .tup [.int a, .int b]]
theorem bs1 : evS G LT WW q bS1 [some h, some (.tup (P0 T v a b :: R)), none, none, none, none, none] S = .next [some h, some (.tup (P0 T v a b :: R)), none, some T, some (.int v), some (.int a), some (.int b)] S := by
  simp only [b_cons, b_nil, s_asg, s_par, s_sub, s_ret, s_expr, s_ife, s_whl, s_for, s_raise, s_pass, e_cst, e_glb0, e_glb1, e_glb2, e_glb3, e_var, e_tup, e_lst, e_dnew, e_bin, e_neg, e_not, e_and, e_or, e_cmp, e_chn, e_ife, e_idx, e_slc, e_rev, e_call, e_bi, e_isi, e_app, e_get2, e_lam, e_lc, l_nil, l_cons, o_none, o_some, i_seq, i_range, i_zip, bind_ok, bind_err, toF_ok, toF_err, fbind_next, fbind_ret, fbind_err, asB_ok, asI_ok, asB_err, truth_ok, truth_err, set_name, set_tup, set_nil, set_cons, fend_next, fend_ret, fend_err, List.length_cons, List.length_nil, List.length_set, List.map_cons, List.map_nil, List.cons_append, List.nil_append, List.getElem?_cons_zero, List.getElem?_cons_succ, List.set_cons_zero, List.set_cons_succ, if_true, if_false, Bool.false_eq_true, Bool.not_true, Bool.not_false, reduceIte, and_self, Nat.reduceAdd, Nat.reduceLT, Nat.reduceLeDiff, Nat.reduceSub, Nat.reduceEqDiff, List.replicate_succ, List.replicate_zero, cap, bS1, b__law_bent, ix0, P0]
def V4 (R : List Val) (P : Val) : Val := if R.isEmpty = true then .tup [.tup (P :: R)] else .tup (P :: R).reverse
def V11 (R : List Val) : Val := if R.isEmpty = true then .tup [.tup [.tup [], .tup [.int 1, .int 1]]] else .tup R
theorem len_gt (b : Bool) (P : Val) (R : List Val) : ∃ n : Int, (∀ S, biop b .len (.tup (P :: R)) S = .ok (.int n) S) ∧ decide (1 < n) = !R.isEmpty := by
  refine ⟨((P :: R).length : Nat), fun S => rfl, ?_⟩
  cases R with
  | nil => rfl
  | cons x R =>
    simp only [List.isEmpty_cons, Bool.not_false, decide_eq_true_eq, List.length_cons]
    omega
theorem bs2 (hR : R.length ≤ 100) : evS G LT WW q bS2 [some h, some (.tup (P0 T v a b :: R)), none, some T, some (.int v), some (.int a), some (.int b)] S = .next [some h, some (.tup (P0 T v a b :: R)), some (.obj (S ++ [Cell.lst (P0 T v a b :: R)]).length), some T, some (.int v), some (.int a), some (.int b)] (S ++ [Cell.lst (P0 T v a b :: R)] ++ [.lst [.non, .tup [], .obj S.length, .tup ((P0 T v a b :: R) ++ [P0 T v a b]), V4 R (P0 T v a b), P0 T v a b, .str "odds"]]) := by
  obtain ⟨n, hn, hd⟩ := len_gt q.gd (P0 T v a b) R
  have hadd : ∀ S, binop .add (.tup (P0 T v a b :: R)) (.tup [P0 T v a b]) S = .ok (.tup ((P0 T v a b :: R) ++ [P0 T v a b])) S := fun S => add_xs (by simp only [List.length_cons, List.length_nil]; omega)
  generalize P0 T v a b = P at *
  unfold V4
  cases hR0 : R.isEmpty with
  | true =>
    rw [hR0] at hd
    simp only [b_cons, b_nil, s_asg, s_par, s_sub, s_ret, s_expr, s_ife, s_whl, s_for, s_raise, s_pass, e_cst, e_glb0, e_glb1, e_glb2, e_glb3, e_var, e_tup, e_lst, e_dnew, e_bin, e_neg, e_not, e_and, e_or, e_cmp, e_chn, e_ife, e_idx, e_slc, e_rev, e_call, e_bi, e_isi, e_app, e_get2, e_lam, e_lc, l_nil, l_cons, o_none, o_some, i_seq, i_range, i_zip, bind_ok, bind_err, toF_ok, toF_err, fbind_next, fbind_ret, fbind_err, asB_ok, asI_ok, asB_err, truth_ok, truth_err, set_name, set_tup, set_nil, set_cons, fend_next, fend_ret, fend_err, List.length_cons, List.length_nil, List.length_set, List.map_cons, List.map_nil, List.cons_append, List.nil_append, List.getElem?_cons_zero, List.getElem?_cons_succ, List.set_cons_zero, List.set_cons_succ, if_true, if_false, Bool.false_eq_true, Bool.not_true, Bool.not_false, reduceIte, and_self, Nat.reduceAdd, Nat.reduceLT, Nat.reduceLeDiff, Nat.reduceSub, Nat.reduceEqDiff, List.replicate_succ, List.replicate_zero, cap, bS2, b__law_bent, list_t, slc_h1, hadd, hn, gt_ii, hd, ix0, alloc_ok]
  | false =>
    rw [hR0] at hd
    simp only [b_cons, b_nil, s_asg, s_par, s_sub, s_ret, s_expr, s_ife, s_whl, s_for, s_raise, s_pass, e_cst, e_glb0, e_glb1, e_glb2, e_glb3, e_var, e_tup, e_lst, e_dnew, e_bin, e_neg, e_not, e_and, e_or, e_cmp, e_chn, e_ife, e_idx, e_slc, e_rev, e_call, e_bi, e_isi, e_app, e_get2, e_lam, e_lc, l_nil, l_cons, o_none, o_some, i_seq, i_range, i_zip, bind_ok, bind_err, toF_ok, toF_err, fbind_next, fbind_ret, fbind_err, asB_ok, asI_ok, asB_err, truth_ok, truth_err, set_name, set_tup, set_nil, set_cons, fend_next, fend_ret, fend_err, List.length_cons, List.length_nil, List.length_set, List.map_cons, List.map_nil, List.cons_append, List.nil_append, List.getElem?_cons_zero, List.getElem?_cons_succ, List.set_cons_zero, List.set_cons_succ, if_true, if_false, Bool.false_eq_true, Bool.not_true, Bool.not_false, reduceIte, and_self, Nat.reduceAdd, Nat.reduceLT, Nat.reduceLeDiff, Nat.reduceSub, Nat.reduceEqDiff, List.replicate_succ, List.replicate_zero, cap, bS2, b__law_bent, list_t, slc_h1, hadd, hn, gt_ii, hd, ix0, alloc_ok, rev_t]
theorem add_two {n : Nat} {A B : List Val} (hn : S[n]? = some (.lst A)) (hA : A.length + B.length ≤ 100) : binop .add (.obj n) (.obj S.length) (S ++ [.lst B]) = .ok (.obj (S ++ [Cell.lst B]).length) (S ++ [.lst B] ++ [.lst (A ++ B)]) := add_oo (app_get hn) app_last (by unfold cap; omega)
theorem add_1R (hR : R.length ≤ 100) (x : Val) : binop .add (.tup [x]) (.tup R) S = .ok (.tup (x :: R)) S := add_xs (xs := [x]) (by simp only [List.length_cons, List.length_nil]; omega)
theorem bs3 (hR : R.length ≤ 100) {n : Nat} {A : List Val} (hn : S[n]? = some (.lst A)) (hA : A.length ≤ 50) (m1 : ∀ S, binop .mul (.int 2) (.int a) S = .ok (.int (2 * a)) S) (m2 : ∀ S, binop .mul (.int 2) (.int b) S = .ok (.int (2 * b)) S) :
    evS G LT WW q bS3 [some h, some (.tup (P0 T v a b :: R)), some (.obj n), some T, some (.int v), some (.int a), some (.int b)] S = .next [some h, some (.tup (P0 T v a b :: R)), some (.obj (S ++ [Cell.lst [.tup (P0 T v (2 * a) (2 * b) :: R), .tup (.tup [T, .int v] :: R)]]).length), some T, some (.int v), some (.int a), some (.int b)] (S ++ [Cell.lst [.tup (P0 T v (2 * a) (2 * b) :: R), .tup (.tup [T, .int v] :: R)]] ++ [.lst (A ++ [.tup (P0 T v (2 * a) (2 * b) :: R), .tup (.tup [T, .int v] :: R)])]) := by
  have ht := add_two (B := [.tup (P0 T v (2 * a) (2 * b) :: R), .tup (.tup [T, .int v] :: R)]) hn (by simp only [List.length_cons, List.length_nil]; omega)
  have h1 : ∀ x S, binop .add (.tup [x]) (.tup R) S = .ok (.tup (x :: R)) S := fun x S => add_1R hR x
  unfold P0 at ht ⊢
  simp only [b_cons, b_nil, s_asg, s_par, s_sub, s_ret, s_expr, s_ife, s_whl, s_for, s_raise, s_pass, e_cst, e_glb0, e_glb1, e_glb2, e_glb3, e_var, e_tup, e_lst, e_dnew, e_bin, e_neg, e_not, e_and, e_or, e_cmp, e_chn, e_ife, e_idx, e_slc, e_rev, e_call, e_bi, e_isi, e_app, e_get2, e_lam, e_lc, l_nil, l_cons, o_none, o_some, i_seq, i_range, i_zip, bind_ok, bind_err, toF_ok, toF_err, fbind_next, fbind_ret, fbind_err, asB_ok, asI_ok, asB_err, truth_ok, truth_err, set_name, set_tup, set_nil, set_cons, fend_next, fend_ret, fend_err, List.length_cons, List.length_nil, List.length_set, List.map_cons, List.map_nil, List.cons_append, List.nil_append, List.getElem?_cons_zero, List.getElem?_cons_succ, List.set_cons_zero, List.set_cons_succ, if_true, if_false, Bool.false_eq_true, Bool.not_true, Bool.not_false, reduceIte, and_self, Nat.reduceAdd, Nat.reduceLT, Nat.reduceLeDiff, Nat.reduceSub, Nat.reduceEqDiff, List.replicate_succ, List.replicate_zero, cap, bS3, b__law_bent, slc_r1, h1, m1, m2, alloc_ok, ht]
theorem bs4 (hR : R.length ≤ 100) {n : Nat} {A : List Val} (hn : S[n]? = some (.lst A)) (hA : A.length ≤ 50) :
    evS G LT WW q bS4 [some h, some (.tup (P0 T v a b :: R)), some (.obj n), some T, some (.int v), some (.int a), some (.int b)] S = .next [some h, some (.tup (P0 T v a b :: R)), some (.obj (S ++ [Cell.lst [.int v]] ++ [Cell.lst [.tup (.tup [.tup [T, .bl true], .tup [.int a, .int b]] :: R), .tup (.tup [.obj S.length, .tup [.int a, .int b]] :: R)]]).length), some T, some (.int v), some (.int a), some (.int b)] (S ++ [Cell.lst [.int v]] ++ [Cell.lst [.tup (.tup [.tup [T, .bl true], .tup [.int a, .int b]] :: R), .tup (.tup [.obj S.length, .tup [.int a, .int b]] :: R)]] ++ [.lst (A ++ [.tup (.tup [.tup [T, .bl true], .tup [.int a, .int b]] :: R), .tup (.tup [.obj S.length, .tup [.int a, .int b]] :: R)])]) := by
  have ht := add_two (S := S ++ [Cell.lst [.int v]]) (B := [.tup (.tup [.tup [T, .bl true], .tup [.int a, .int b]] :: R), .tup (.tup [.obj S.length, .tup [.int a, .int b]] :: R)]) (app_get hn) (by simp only [List.length_cons, List.length_nil]; omega)
  have h1 : ∀ x S, binop .add (.tup [x]) (.tup R) S = .ok (.tup (x :: R)) S := fun x S => add_1R hR x
  unfold P0
  simp only [b_cons, b_nil, s_asg, s_par, s_sub, s_ret, s_expr, s_ife, s_whl, s_for, s_raise, s_pass, e_cst, e_glb0, e_glb1, e_glb2, e_glb3, e_var, e_tup, e_lst, e_dnew, e_bin, e_neg, e_not, e_and, e_or, e_cmp, e_chn, e_ife, e_idx, e_slc, e_rev, e_call, e_bi, e_isi, e_app, e_get2, e_lam, e_lc, l_nil, l_cons, o_none, o_some, i_seq, i_range, i_zip, bind_ok, bind_err, toF_ok, toF_err, fbind_next, fbind_ret, fbind_err, asB_ok, asI_ok, asB_err, truth_ok, truth_err, set_name, set_tup, set_nil, set_cons, fend_next, fend_ret, fend_err, List.length_cons, List.length_nil, List.length_set, List.map_cons, List.map_nil, List.cons_append, List.nil_append, List.getElem?_cons_zero, List.getElem?_cons_succ, List.set_cons_zero, List.set_cons_succ, if_true, if_false, Bool.false_eq_true, Bool.not_true, Bool.not_false, reduceIte, and_self, Nat.reduceAdd, Nat.reduceLT, Nat.reduceLeDiff, Nat.reduceSub, Nat.reduceEqDiff, List.replicate_succ, List.replicate_zero, cap, bS4, b__law_bent, slc_r1, h1, alloc_ok, ht]
theorem bs5 (hR : R.length ≤ 100) {n : Nat} {A : List Val} (hn : S[n]? = some (.lst A)) (hA : A.length ≤ 50) :
    evS G LT WW q bS5 [some h, some (.tup (P0 T v a b :: R)), some (.obj n), some T, some (.int v), some (.int a), some (.int b)] S = .next [some h, some (.tup (P0 T v a b :: R)), some (.obj (S ++ [Cell.lst [V11 R, .tup (P0 T v 0 1 :: R)]]).length), some T, some (.int v), some (.int a), some (.int b)] (S ++ [Cell.lst [V11 R, .tup (P0 T v 0 1 :: R)]] ++ [.lst (A ++ [V11 R, .tup (P0 T v 0 1 :: R)])]) := by
  have ht := add_two (B := [V11 R, .tup (P0 T v 0 1 :: R)]) hn (by simp only [List.length_cons, List.length_nil]; omega)
  have h1 : ∀ x S, binop .add (.tup [x]) (.tup R) S = .ok (.tup (x :: R)) S := fun x S => add_1R hR x
  obtain ⟨n', hn', hd⟩ := len_gt q.gd (P0 T v a b) R
  unfold V11 at ht ⊢
  unfold P0 at *
  cases hR0 : R.isEmpty with
  | true =>
    rw [hR0] at hd
    simp only [hR0, if_true] at ht
    simp only [b_cons, b_nil, s_asg, s_par, s_sub, s_ret, s_expr, s_ife, s_whl, s_for, s_raise, s_pass, e_cst, e_glb0, e_glb1, e_glb2, e_glb3, e_var, e_tup, e_lst, e_dnew, e_bin, e_neg, e_not, e_and, e_or, e_cmp, e_chn, e_ife, e_idx, e_slc, e_rev, e_call, e_bi, e_isi, e_app, e_get2, e_lam, e_lc, l_nil, l_cons, o_none, o_some, i_seq, i_range, i_zip, bind_ok, bind_err, toF_ok, toF_err, fbind_next, fbind_ret, fbind_err, asB_ok, asI_ok, asB_err, truth_ok, truth_err, set_name, set_tup, set_nil, set_cons, fend_next, fend_ret, fend_err, List.length_cons, List.length_nil, List.length_set, List.map_cons, List.map_nil, List.cons_append, List.nil_append, List.getElem?_cons_zero, List.getElem?_cons_succ, List.set_cons_zero, List.set_cons_succ, if_true, if_false, Bool.false_eq_true, Bool.not_true, Bool.not_false, reduceIte, and_self, Nat.reduceAdd, Nat.reduceLT, Nat.reduceLeDiff, Nat.reduceSub, Nat.reduceEqDiff, List.replicate_succ, List.replicate_zero, cap, bS5, b__law_bent, slc_r1, h1, alloc_ok, hn', gt_ii, hd, ht]
  | false =>
    rw [hR0] at hd
    simp only [hR0, if_false, Bool.false_eq_true] at ht
    simp only [b_cons, b_nil, s_asg, s_par, s_sub, s_ret, s_expr, s_ife, s_whl, s_for, s_raise, s_pass, e_cst, e_glb0, e_glb1, e_glb2, e_glb3, e_var, e_tup, e_lst, e_dnew, e_bin, e_neg, e_not, e_and, e_or, e_cmp, e_chn, e_ife, e_idx, e_slc, e_rev, e_call, e_bi, e_isi, e_app, e_get2, e_lam, e_lc, l_nil, l_cons, o_none, o_some, i_seq, i_range, i_zip, bind_ok, bind_err, toF_ok, toF_err, fbind_next, fbind_ret, fbind_err, asB_ok, asI_ok, asB_err, truth_ok, truth_err, set_name, set_tup, set_nil, set_cons, fend_next, fend_ret, fend_err, List.length_cons, List.length_nil, List.length_set, List.map_cons, List.map_nil, List.cons_append, List.nil_append, List.getElem?_cons_zero, List.getElem?_cons_succ, List.set_cons_zero, List.set_cons_succ, if_true, if_false, Bool.false_eq_true, Bool.not_true, Bool.not_false, reduceIte, and_self, Nat.reduceAdd, Nat.reduceLT, Nat.reduceLeDiff, Nat.reduceSub, Nat.reduceEqDiff, List.replicate_succ, List.replicate_zero, cap, bS5, b__law_bent, slc_r1, h1, alloc_ok, hn', gt_ii, hd, ht]
end
end
end Law
end

section
set_option Elab.async false
set_option linter.all false
set_option autoImplicit false
set_option maxRecDepth 100000
namespace Law
open PySem Ev
section
variable {k : Nat} {g : Bool} {S : Store} {q : Ev.Ctx} {e : Ev.Env}
/-- all that is put together -/
def bentL (T : Val) (v a b : Int) (R : List Val) (o1 o2 : Nat) : List Val :=
  [.non, .tup [], .obj o1, .tup ((P0 T v a b :: R) ++ [P0 T v a b]), V4 R (P0 T v a b), P0 T v a b, .str "odds"] ++ [.tup (P0 T v (2 * a) (2 * b) :: R), .tup (.tup [T, .int v] :: R)] ++ [.tup (.tup [.tup [T, .bl true], .tup [.int a, .int b]] :: R), .tup (.tup [.obj o2, .tup [.int a, .int b]] :: R)] ++ [V11 R, .tup (P0 T v 0 1 :: R)]
def bentE : List Val := [.tup [.tup [oV 2, fV (1, 2)], .tup [oV 3, fV (1, 3)]], .tup [.tup [oV 2, fV (3, 2)], .tup [oV 3, fV (-1, 2)]]]
theorem bs25 {h T : Val} {v a b : Int} {R : List Val} (hR : R.length ≤ 100) (m1 : ∀ S, binop .mul (.int 2) (.int a) S = .ok (.int (2 * a)) S) (m2 : ∀ S, binop .mul (.int 2) (.int b) S = .ok (.int (2 * b)) S) (rest : IB) :
    ∃ (J : Store) (n o1 o2 : Nat), evB G LT WW q (.cons bS2 (.cons bS3 (.cons bS4 (.cons bS5 rest)))) [some h, some (.tup (P0 T v a b :: R)), none, some T, some (.int v), some (.int a), some (.int b)] S = evB G LT WW q rest [some h, some (.tup (P0 T v a b :: R)), some (.obj n), some T, some (.int v), some (.int a), some (.int b)] (S ++ J) ∧ (S ++ J)[n]? = some (.lst (bentL T v a b R o1 o2)) ∧ S.length ≤ o1 ∧ S.length ≤ o2 ∧ (∃ vs, (S ++ J)[o1]? = some (.lst vs)) ∧ (∃ vs, (S ++ J)[o2]? = some (.lst vs)) := by
  have e2 := bs2 (S := S) (q := q) (h := h) (T := T) (v := v) (a := a) (b := b) hR
  have o1 : (S ++ [Cell.lst (P0 T v a b :: R)])[S.length]? = some (.lst (P0 T v a b :: R)) := app_last
  have o1' := app_get (J := [Cell.lst [.non, .tup [], .obj S.length, .tup ((P0 T v a b :: R) ++ [P0 T v a b]), V4 R (P0 T v a b), P0 T v a b, .str "odds"]]) o1
  have n2 : (S ++ [Cell.lst (P0 T v a b :: R)] ++ [Cell.lst [.non, .tup [], .obj S.length, .tup ((P0 T v a b :: R) ++ [P0 T v a b]), V4 R (P0 T v a b), P0 T v a b, .str "odds"]])[(S ++ [Cell.lst (P0 T v a b :: R)]).length]? = _ := app_last
  generalize hA : [Val.non, .tup [], .obj S.length, .tup ((P0 T v a b :: R) ++ [P0 T v a b]), V4 R (P0 T v a b), P0 T v a b, .str "odds"] = A at e2 o1' n2
  have lA : A.length = 7 := by rw [← hA]; rfl
  generalize hS2 : S ++ [Cell.lst (P0 T v a b :: R)] ++ [Cell.lst A] = S2 at e2 o1' n2
  have e3 := bs3 (S := S2) (q := q) (h := h) (T := T) (v := v) hR n2 (by omega) m1 m2
  have n3 : (S2 ++ [Cell.lst [.tup (P0 T v (2 * a) (2 * b) :: R), .tup (.tup [T, .int v] :: R)]] ++ [Cell.lst (A ++ [.tup (P0 T v (2 * a) (2 * b) :: R), .tup (.tup [T, .int v] :: R)])])[(S2 ++ [Cell.lst [.tup (P0 T v (2 * a) (2 * b) :: R), .tup (.tup [T, .int v] :: R)]]).length]? = _ := app_last
  have l3 : (A ++ [Val.tup (P0 T v (2 * a) (2 * b) :: R), .tup (.tup [T, .int v] :: R)]).length = 9 := by rw [List.length_append, lA]; rfl
  generalize hB : A ++ [Val.tup (P0 T v (2 * a) (2 * b) :: R), .tup (.tup [T, .int v] :: R)] = B at e3 n3 l3
  have o3 := app_get (J := [Cell.lst B]) (app_get (J := [Cell.lst [.tup (P0 T v (2 * a) (2 * b) :: R), .tup (.tup [T, .int v] :: R)]]) o1')
  generalize hS3 : S2 ++ [Cell.lst [.tup (P0 T v (2 * a) (2 * b) :: R), .tup (.tup [T, .int v] :: R)]] ++ [Cell.lst B] = S3 at e3 n3 o3
  have e4 := bs4 (S := S3) (q := q) (h := h) (T := T) (v := v) (a := a) (b := b) hR n3 (by omega)
  have w4 : (S3 ++ [Cell.lst [.int v]])[S3.length]? = some (.lst [.int v]) := app_last
  have w4' := app_get (J := [Cell.lst (B ++ [.tup (.tup [.tup [T, .bl true], .tup [.int a, .int b]] :: R), .tup (.tup [.obj S3.length, .tup [.int a, .int b]] :: R)])]) (app_get (J := [Cell.lst [.tup (.tup [.tup [T, .bl true], .tup [.int a, .int b]] :: R), .tup (.tup [.obj S3.length, .tup [.int a, .int b]] :: R)]]) w4)
  have o4 := app_get (J := [Cell.lst (B ++ [.tup (.tup [.tup [T, .bl true], .tup [.int a, .int b]] :: R), .tup (.tup [.obj S3.length, .tup [.int a, .int b]] :: R)])]) (app_get (J := [Cell.lst [.tup (.tup [.tup [T, .bl true], .tup [.int a, .int b]] :: R), .tup (.tup [.obj S3.length, .tup [.int a, .int b]] :: R)]]) (app_get (J := [Cell.lst [.int v]]) o3))
  have n4 : (S3 ++ [Cell.lst [.int v]] ++ [Cell.lst [.tup (.tup [.tup [T, .bl true], .tup [.int a, .int b]] :: R), .tup (.tup [.obj S3.length, .tup [.int a, .int b]] :: R)]] ++ [Cell.lst (B ++ [.tup (.tup [.tup [T, .bl true], .tup [.int a, .int b]] :: R), .tup (.tup [.obj S3.length, .tup [.int a, .int b]] :: R)])])[(S3 ++ [Cell.lst [.int v]] ++ [Cell.lst [.tup (.tup [.tup [T, .bl true], .tup [.int a, .int b]] :: R), .tup (.tup [.obj S3.length, .tup [.int a, .int b]] :: R)]]).length]? = _ := app_last
  have l4 : (B ++ [Val.tup (.tup [.tup [T, .bl true], .tup [.int a, .int b]] :: R), .tup (.tup [.obj S3.length, .tup [.int a, .int b]] :: R)]).length = 11 := by rw [List.length_append, l3]; rfl
  generalize hC : B ++ [Val.tup (.tup [.tup [T, .bl true], .tup [.int a, .int b]] :: R), .tup (.tup [.obj S3.length, .tup [.int a, .int b]] :: R)] = C at e4 n4 l4 w4' o4
  generalize hS4 : S3 ++ [Cell.lst [.int v]] ++ [Cell.lst [.tup (.tup [.tup [T, .bl true], .tup [.int a, .int b]] :: R), .tup (.tup [.obj S3.length, .tup [.int a, .int b]] :: R)]] ++ [Cell.lst C] = S4 at e4 n4 w4' o4
  have e5 := bs5 (S := S4) (q := q) (h := h) (T := T) (v := v) (a := a) (b := b) hR n4 (by omega)
  have n5 : (S4 ++ [Cell.lst [V11 R, .tup (P0 T v 0 1 :: R)]] ++ [Cell.lst (C ++ [V11 R, .tup (P0 T v 0 1 :: R)])])[(S4 ++ [Cell.lst [V11 R, .tup (P0 T v 0 1 :: R)]]).length]? = _ := app_last
  have w5 := app_get (J := [Cell.lst (C ++ [V11 R, .tup (P0 T v 0 1 :: R)])]) (app_get (J := [Cell.lst [V11 R, .tup (P0 T v 0 1 :: R)]]) w4')
  have o5 := app_get (J := [Cell.lst (C ++ [V11 R, .tup (P0 T v 0 1 :: R)])]) (app_get (J := [Cell.lst [V11 R, .tup (P0 T v 0 1 :: R)]]) o4)
  have hbl : C ++ [V11 R, .tup (P0 T v 0 1 :: R)] = bentL T v a b R S.length S3.length := by
    rw [← hC, ← hB, ← hA]
    rfl
  obtain ⟨J, hJ⟩ : ∃ J, S4 ++ [Cell.lst [V11 R, .tup (P0 T v 0 1 :: R)]] ++ [Cell.lst (C ++ [V11 R, .tup (P0 T v 0 1 :: R)])] = S ++ J := by
    rw [← hS4, ← hS3, ← hS2]
    simp only [List.append_assoc]
    exact ⟨_, rfl⟩
  have hl3 : S.length ≤ S3.length := by
    rw [← hS3, ← hS2]
    simp only [List.length_append]
    omega
  rw [hbl] at n5
  rw [hbl] at e5 w5 o5 hJ
  refine ⟨J, _, S.length, S3.length, ?_, by rw [← hJ]; exact n5, Nat.le_refl _, hl3, ⟨_, by rw [← hJ]; exact o5⟩, ⟨_, by rw [← hJ]; exact w5⟩⟩
  rw [b_cons, e2, fbind_next, b_cons, e3, fbind_next, b_cons, e4, fbind_next, b_cons, e5, fbind_next, hJ]
theorem bs6 {m n : Nat} {T : Val} {v a b : Int} {told : Val} {A : List Val} (hS : Hd m S) (hm : m < 10 ^ 8) (hn : S[n]? = some (.lst A)) (hA : A.length ≤ 50) :
    ∃ (S' : Store) (w : Val), evS G LT WW ⟨CC (k + 4) g, CC (k + 2) false, g⟩ bS6 [some (.obj 2), some told, some (.obj n), some T, some (.int v), some (.int a), some (.int b)] S = .ret w S' ∧ w ∈ A ++ bentE ∧ Keep S S' ∧ Hd (m + 1) S' := by
  have ht := add_two (S := S) (n := n) (A := A) (B := bentE) hn (by have : bentE.length = 2 := rfl; omega)
  have hl := hS.len
  have hlen : (A ++ bentE).length = A.length + 2 := by rw [List.length_append]; rfl
  obtain ⟨S', w, h1, h2, h3, h4, h5⟩ := some_ok (k := k) (g := g) (n := (S ++ [Cell.lst bentE]).length) (vs := A ++ bentE) ((hS.app [.lst bentE]).app [.lst (A ++ bentE)]) hm app_last (by rw [List.length_append]; omega) (by omega) (by omega)
  refine ⟨S', w, ?_, h2, ((Keep.app _ _).trans (Keep.app _ _)).trans h3, h4⟩
  have hE : bentE = [.tup [.tup [.tup [.tup [], .int 0], .tup [.int 1, .int 2]], .tup [.tup [.tup [], .int 1], .tup [.int 1, .int 3]]], .tup [.tup [.tup [.tup [], .int 0], .tup [.int 3, .int 2]], .tup [.tup [.tup [], .int 1], .tup [.int (-1), .int 2]]]] := rfl
  rw [hE] at ht h1
  simp only [b_cons, b_nil, s_asg, s_par, s_sub, s_ret, s_expr, s_ife, s_whl, s_for, s_raise, s_pass, e_cst, e_glb0, e_glb1, e_glb2, e_glb3, e_var, e_tup, e_lst, e_dnew, e_bin, e_neg, e_not, e_and, e_or, e_cmp, e_chn, e_ife, e_idx, e_slc, e_rev, e_call, e_bi, e_isi, e_app, e_get2, e_lam, e_lc, l_nil, l_cons, o_none, o_some, i_seq, i_range, i_zip, bind_ok, bind_err, toF_ok, toF_err, fbind_next, fbind_ret, fbind_err, asB_ok, asI_ok, asB_err, truth_ok, truth_err, set_name, set_tup, set_nil, set_cons, fend_next, fend_ret, fend_err, List.length_cons, List.length_nil, List.length_set, List.map_cons, List.map_nil, List.cons_append, List.nil_append, List.getElem?_cons_zero, List.getElem?_cons_succ, List.set_cons_zero, List.set_cons_succ, if_true, if_false, Bool.false_eq_true, Bool.not_true, Bool.not_false, reduceIte, and_self, Nat.reduceAdd, Nat.reduceLT, Nat.reduceLeDiff, Nat.reduceSub, Nat.reduceEqDiff, List.replicate_succ, List.replicate_zero, cap, bS6, b__law_bent, alloc_ok, ht, h1]
end
end Law
end

section
set_option Elab.async false
set_option linter.all false
set_option autoImplicit false
set_option maxRecDepth 100000
namespace Law
open PySem Ev
section
variable {k : Nat} {g : Bool} {S : Store} {q : Ev.Ctx} {e : Ev.Env}
theorem not_up_last (a : Nat) (t : List Nat) : ¬ ((a :: t) ++ [a]).Pairwise (· < ·) := by
  intro h
  rw [List.pairwise_append] at h
  exact Nat.lt_irrefl a (h.2.2 a (List.mem_cons_self ..) a (List.mem_singleton.mpr rfl))
theorem not_up_rev (a b : Nat) (t : List Nat) (h : (a :: b :: t).Pairwise (· < ·)) : ¬ (a :: b :: t).reverse.Pairwise (· < ·) := by
  intro hr
  rw [List.pairwise_reverse] at hr
  have h1 := (List.pairwise_cons.mp h).1 b (List.mem_cons_self ..)
  have h2 := (List.pairwise_cons.mp hr).1 b (List.mem_cons_self ..)
  omega
theorem rest_empty {r : List (Nat × Int)} {s : Int} (h : ((r.map (sh s)).map prV).isEmpty = true) : r = [] := by
  cases r with
  | nil => rfl
  | cons p r => exact absurd h (by simp)
theorem bent_bad {p0 : Nat × Int} {r : List (Nat × Int)} (hD : D (p0 :: r)) {o1 o2 : Nat} {w : Val} (ho1 : o1 ≠ 2) (ho2 : o2 ≠ 2) (h1 : ∃ vs, S[o1]? = some (.lst vs)) (h2 : ∃ vs, S[o2]? = some (.lst vs))
    (hw : w ∈ bentL (.tup ((oX p0.1).map Val.int)) (oI p0.1) (rd p0.2 (tot (p0 :: r))).1 (rd p0.2 (tot (p0 :: r))).2 ((r.map (sh (tot (p0 :: r)))).map prV) o1 o2 ++ bentE) : Bad S w := by
  have hpos := hD.pos
  have h31 := hD.few31
  have hrw : ∀ p ∈ r, 0 < p.2 ∧ p.2 ≤ tot (p0 :: r) := fun p hp => ⟨(hD.w p (List.mem_cons_of_mem _ hp)).1, le_tot hD.wpos p (List.mem_cons_of_mem _ hp)⟩
  have hou : Outs (p0.1 :: r.map (·.1)) := hD.outs
  have hfst : ((sh (tot (p0 :: r)) p0 :: r.map (sh (tot (p0 :: r)))).map (·.1)) = p0.1 :: r.map (·.1) := by
    rw [List.map_cons, map_sh_fst]
    rfl
  have hfew := hou.few
  rw [List.length_cons, List.length_map] at hfew
  have hrl : (r.map (sh (tot (p0 :: r)))).length ≤ 70 := by rw [List.length_map]; omega
  unfold bentL bentE at hw
  simp only [List.mem_append, List.mem_cons, List.not_mem_nil, or_false] at hw
  rcases hw with ((((h | h | h | h | h | h | h) | h | h) | h | h) | h | h) | h | h
  · rw [h]; exact bad_non
  · rw [h]; exact bad_nil
  · rw [h]
    obtain ⟨vs, hv⟩ := h1
    exact bad_obj ho1 hv
  · rw [h]
    have hb := bad_order (S := S) ((sh (tot (p0 :: r)) p0 :: r.map (sh (tot (p0 :: r)))) ++ [sh (tot (p0 :: r)) p0]) (by
      intro i hi
      rw [List.map_append, hfst] at hi
      rcases List.mem_append.mp hi with h3 | h3
      · exact hou.lt i h3
      · have h4 : i = (sh (tot (p0 :: r)) p0).1 := by simpa using h3
        have h5 : i = p0.1 := h4
        rw [h5]
        exact hou.lt p0.1 (List.mem_cons_self ..)) (by
      rw [List.length_append, List.length_cons]
      have h7 := hD.few
      rw [List.length_cons] at h7
      simp only [List.length_map, List.length_cons, List.length_nil]
      omega) (by
      rw [List.map_append, hfst]
      exact not_up_last p0.1 _)
    rw [List.map_append, List.map_cons] at hb
    exact hb
  · rw [h]
    unfold V4
    split
    · next he =>
      have hr0 := rest_empty he
      subst hr0
      exact bad_one [_] (by show ((1 : Nat) : Int) ≠ 2; decide)
    · next he =>
      cases r with
      | nil => exact absurd rfl he
      | cons p1 r =>
        have hb := bad_order (S := S) (sh (tot (p0 :: p1 :: r)) p0 :: (p1 :: r).map (sh (tot (p0 :: p1 :: r)))).reverse (by
          intro i hi
          rw [List.map_reverse, hfst] at hi
          exact hou.lt i (List.mem_reverse.mp hi)) (by
          rw [List.length_reverse, List.length_cons]
          have h7 := hD.few
          rw [List.length_cons] at h7
          rw [List.length_map]
          omega) (by
          rw [List.map_reverse, hfst]
          exact not_up_rev _ _ _ hou.up)
        rw [List.map_reverse, List.map_cons] at hb
        exact hb
  · rw [h]; exact bad_pair p0.1 (rd p0.2 (tot (p0 :: r)))
  · rw [h]; exact bad_str _
  · rw [h]; exact bad_first p0.1 (2 * (rd p0.2 (tot (p0 :: r))).1, 2 * (rd p0.2 (tot (p0 :: r))).2) r (tot (p0 :: r)) hou hrw (by omega) (fun k g => chAt_two hpos (by omega))
  · rw [h]; exact bad_head _ _ _ hrl (fun k g S' _ => is_out_T (oX p0.1))
  · rw [h]; exact bad_head _ _ _ hrl (fun k g S' _ => is_out_bl _)
  · rw [h]
    obtain ⟨vs, hv⟩ := h2
    exact bad_head _ _ _ hrl (fun k g S' hk => is_out_o (hk.get ho2 hv))
  · rw [h]
    unfold V11
    split
    · next he =>
      exact bad_head (.tup []) (fV (1, 1)) [] (by decide) (fun k g S' _ => is_out_T [])
    · exact bad_rest p0 r hD
  · rw [h]; exact bad_first p0.1 (0, 1) r (tot (p0 :: r)) hou hrw (by omega) (fun k g => chAt_nought)
  · rw [h]; exact bad_13
  · rw [h]; exact bad_14
theorem bent_ok {m : Nat} {iw : List (Nat × Int)} (hS : Hd m S) (hm : m < 10 ^ 8) (hD : D iw) : ∃ (S' : Store) (w : Val), CC (k + 5) g 32 [.obj 2, chV (dl iw)] S = .ok w S' ∧ Bad S' w ∧ Keep S S' ∧ Hd (m + 1) S' := by
  cases iw with
  | nil => exact absurd rfl hD.some
  | cons p0 r =>
    have hl := hS.len
    have hpos := hD.pos
    have h31 := hD.few31
    have hfew := hD.few
    rw [List.length_cons] at hfew
    have hw0 := hD.w p0 (List.mem_cons_self ..)
    have hsm := rd_Sm hw0.1 hpos (show p0.2.natAbs ≤ 10 ^ 31 by omega) (show (tot (p0 :: r)).natAbs ≤ 10 ^ 31 by omega)
    have z : (10 : Nat) ^ 31 < 2 ^ 200 := by decide
    have m1 : ∀ S, binop .mul (.int 2) (.int (rd p0.2 (tot (p0 :: r))).1) S = .ok (.int (2 * (rd p0.2 (tot (p0 :: r))).1)) S := fun S => mul_sh (by show (2 : Int).natAbs < 10 ^ 98; decide) hsm.sh.1
    have m2 : ∀ S, binop .mul (.int 2) (.int (rd p0.2 (tot (p0 :: r))).2) S = .ok (.int (2 * (rd p0.2 (tot (p0 :: r))).2)) S := fun S => mul_sh (by show (2 : Int).natAbs < 10 ^ 98; decide) hsm.sh.2.1
    have hR : ((r.map (sh (tot (p0 :: r)))).map prV).length ≤ 100 := by rw [List.length_map, List.length_map]; omega
    obtain ⟨J, n, o1, o2, e1, hn, ho1, ho2, w1, w2⟩ := bs25 (S := S) (q := ⟨CC (k + 4) g, CC (k + 2) false, g⟩) (h := .obj 2) (T := .tup ((oX p0.1).map Val.int)) (v := oI p0.1) hR m1 m2 (.cons bS6 .nil)
    obtain ⟨S', w, h1, h2, h3, h4⟩ := bs6 (k := k) (g := g) (T := .tup ((oX p0.1).map Val.int)) (v := oI p0.1) (a := (rd p0.2 (tot (p0 :: r))).1) (b := (rd p0.2 (tot (p0 :: r))).2) (told := .tup (P0 (.tup ((oX p0.1).map Val.int)) (oI p0.1) (rd p0.2 (tot (p0 :: r))).1 (rd p0.2 (tot (p0 :: r))).2 :: (r.map (sh (tot (p0 :: r)))).map prV)) (hS.app J) hm hn (by unfold bentL; simp only [List.length_append, List.length_cons, List.length_nil]; omega)
    have hb := bent_bad (S := S ++ J) hD (by omega) (by omega) w1 w2 h2
    refine ⟨S', w, ?_, hb.keep h3, (Keep.app _ _).trans h3, h4⟩
    rw [C_at (k := k + 2) (np := 2) (nn := 7) (body := b__law_bent) rfl rfl, b_bent, b_cons]
    have e0 := bs1 (S := S) (q := ⟨CC (k + 4) g, CC (k + 2) false, g⟩) (h := .obj 2) (T := .tup ((oX p0.1).map Val.int)) (v := oI p0.1) (a := (rd p0.2 (tot (p0 :: r))).1) (b := (rd p0.2 (tot (p0 :: r))).2) (R := (r.map (sh (tot (p0 :: r)))).map prV)
    have e0' : evS G LT WW ⟨CC (k + 2 + 2) g, CC (k + 2) false, g⟩ bS1 (List.map some [Val.obj 2, chV (dl (p0 :: r))] ++ List.replicate (7 - [Val.obj 2, chV (dl (p0 :: r))].length) none) S = _ := e0
    rw [e0', fbind_next, e1, b_cons, h1]
    rfl
end
end Law
end

section
set_option Elab.async false
set_option linter.all false
set_option autoImplicit false
set_option maxRecDepth 100000
namespace Law
open PySem Ev
/-! data that can be shown, short -/
theorem so_app (x y : Str) (hx : PyData.strOk x = true) (hy : PyData.strOk y = true) : PyData.strOk (x ++ y) = true := by
  show (x.cps ++ y.cps).all (fun c => decide (c < 0x110000)) = true
  rw [Array.all_append, Bool.and_eq_true]
  exact ⟨hx, hy⟩
theorem so_string (s : String) : PyData.strOk (Str.ofString s) = true := by
  show (Str.ofString s).cps.all (fun c => decide (c < 0x110000)) = true
  rw [Str.ofString_eq_toList]
  show ((s.toList.map Char.toNat).toArray).all _ = true
  rw [List.all_toArray, List.all_eq_true]
  intro n hn
  obtain ⟨c, _, rfl⟩ := List.mem_map.mp hn
  have hv := c.valid
  have : c.toNat < 0x110000 := by
    rcases hv with h | h
    · have : c.toNat < 0xd800 := h
      omega
    · exact h.2
  simpa using this
structure SD (n : Nat) (d : PyData) : Prop where
  a : d.showable = true
  b : PyData.strOk d.shown = true
  c : d.shown.length ≤ n
theorem len_string (s : String) : (Str.ofString s).length = s.length := ofString_length s
theorem SD_int {i : Int} (h : i.natAbs < 10 ^ 98) : SD 100 (.int i) where
  a := by
    have := log_lt (a := i) (n := 400) (Nat.lt_trans h (by decide)) (by decide)
    simp only [PyData.showable, decide_eq_true_eq]
    omega
  b := by
    rw [PyData.shown]
    exact so_string _
  c := by
    rw [PyData.shown, len_string]
    cases i with
    | ofNat m =>
      show (Nat.repr m).length ≤ 100
      exact (Nat.length_repr_le_iff (by decide)).mpr (Nat.lt_trans (show m < 10 ^ 98 from h) (by decide))
    | negSucc m =>
      show ("-" ++ Nat.repr (m + 1)).length ≤ 100
      rw [String.length_append]
      have h1 := (Nat.length_repr_le_iff (n := m + 1) (k := 99) (by decide)).mpr (Nat.lt_trans (show m + 1 < 10 ^ 98 from h) (by decide))
      have h2 : ("-" : String).length = 1 := rfl
      omega
theorem SD_bool (b : Bool) : SD 100 (.bool b) where
  a := rfl
  b := by
    rw [PyData.shown]
    split <;> exact so_string _
  c := by
    rw [PyData.shown]
    split
    · rw [len_string]; decide
    · rw [len_string]; decide
theorem SD_odds : SD 100 (.str "odds") := ⟨rfl, by decide +kernel, by decide +kernel⟩
theorem SD_endless : SD 100 (.str "endless") := ⟨rfl, by decide +kernel, by decide +kernel⟩
theorem piled_le {n : Nat} : ∀ (ts : List Str), (∀ t ∈ ts, t.length ≤ n) → piled ts ≤ (n + 2) * ts.length
  | [], _ => Nat.zero_le _
  | t :: ts, h => by
    rw [piled_cons, List.length_cons, Nat.mul_succ]
    have := piled_le ts fun t' h' => h t' (List.mem_cons_of_mem _ h')
    have := h t (List.mem_cons_self ..)
    omega
theorem so_join : ∀ (ts : List Str), (∀ t ∈ ts, PyData.strOk t = true) → PyData.strOk (Str.join ", " ts) = true
  | [], _ => by decide +kernel
  | [x], h => h x (List.mem_cons_self ..)
  | x :: y :: r, h => by
    show PyData.strOk (x ++ ", " ++ Str.join ", " (y :: r)) = true
    exact so_app _ _ (so_app _ _ (h x (List.mem_cons_self ..)) (so_string _)) (so_join (y :: r) fun t' h' => h t' (List.mem_cons_of_mem _ h'))
theorem textFrom_le {n : Nat} : ∀ (ts : List Str) (k : Nat) (acc : Str), (∀ t ∈ ts, t.length ≤ n) → (textFrom k acc ts).length ≤ acc.length + (n + 2) * ts.length
  | [], k, acc, _ => by
    show acc.length ≤ _
    omega
  | t :: ts, k, acc, h => by
    show (textFrom (k + 1) (acc ++ (if k > 0 then ", " else "" : String) ++ t) ts).length ≤ _
    have h1 := textFrom_le ts (k + 1) (acc ++ (if k > 0 then ", " else "" : String) ++ t) fun t' h' => h t' (List.mem_cons_of_mem _ h')
    have h2 := h t (List.mem_cons_self ..)
    have h3 : (Str.ofString (if k > 0 then ", " else "" : String)).length ≤ 2 := by split <;> (rw [len_string]; decide)
    rw [strLen_append, strLen_append] at h1
    rw [List.length_cons, Nat.mul_succ]
    omega
theorem so_text : ∀ (ts : List Str) (k : Nat) (acc : Str), PyData.strOk acc = true → (∀ t ∈ ts, PyData.strOk t = true) → PyData.strOk (textFrom k acc ts) = true
  | [], _, _, h, _ => h
  | t :: ts, k, acc, h, h' => so_text ts (k + 1) _ (so_app _ _ (so_app _ _ h (so_string _)) (h' t (List.mem_cons_self ..))) fun t' h'' => h' t' (List.mem_cons_of_mem _ h'')
theorem shownAll_map : ∀ xs : List PyData, PyData.shownAll xs = xs.map PyData.shown
  | [] => by simp only [PyData.shownAll, List.map_nil]
  | x :: xs => by simp only [PyData.shownAll, List.map_cons, shownAll_map xs]
theorem showableAll_of : ∀ xs : List PyData, (∀ x ∈ xs, x.showable = true) → PyData.showableAll xs = true
  | [], _ => by simp only [PyData.showableAll]
  | x :: xs, h => by simp only [PyData.showableAll, h x (List.mem_cons_self ..), showableAll_of xs fun x' h' => h x' (List.mem_cons_of_mem _ h'), Bool.and_self]
theorem SD_tuple {n : Nat} {xs : List PyData} (h : ∀ x ∈ xs, SD n x) : SD ((n + 2) * xs.length + 3) (.tuple xs) where
  a := by
    simp only [PyData.showable]
    exact showableAll_of xs fun x hx => (h x hx).a
  b := by
    rw [PyData.shown, shownAll_map]
    unfold tupleText
    refine so_app _ _ (so_app _ _ (so_string _) (so_join _ fun t ht => ?_)) (so_string _)
    obtain ⟨x, hx, rfl⟩ := List.mem_map.mp ht
    exact (h x hx).b
  c := by
    rw [PyData.shown, shownAll_map]
    unfold tupleText
    have h1 : ∀ t ∈ xs.map PyData.shown, t.length ≤ n := fun t ht => by
      obtain ⟨x, hx, rfl⟩ := List.mem_map.mp ht
      exact (h x hx).c
    have h2 := piled_le _ h1
    have h3 : (Str.ofString "(").length = 1 := rfl
    have h4 : ∀ b : Bool, (Str.ofString (if b = true then ",)" else ")" : String)).length ≤ 2 := fun b => by
      cases b <;> (rw [len_string]; decide)
    have h5 := h4 ((xs.map PyData.shown).length == 1)
    have h6 : (Str.join ", " (xs.map PyData.shown)).length ≤ piled (xs.map PyData.shown) := by
      by_cases h0 : xs.map PyData.shown = []
      · rw [h0]; decide
      · have := join_length_add _ h0
        omega
    rw [List.length_map] at h2
    rw [strLen_append, strLen_append]
    omega
theorem SD_list {n : Nat} {xs : List PyData} (h : ∀ x ∈ xs, SD n x) : SD ((n + 2) * xs.length + 3) (.list xs) where
  a := by
    simp only [PyData.showable]
    exact showableAll_of xs fun x hx => (h x hx).a
  b := by
    rw [PyData.shown, shownAll_map]
    unfold listText
    refine so_app _ _ (so_text _ _ _ (so_string _) fun t ht => ?_) (so_string _)
    obtain ⟨x, hx, rfl⟩ := List.mem_map.mp ht
    exact (h x hx).b
  c := by
    rw [PyData.shown, shownAll_map]
    unfold listText
    have h1 : ∀ t ∈ xs.map PyData.shown, t.length ≤ n := fun t ht => by
      obtain ⟨x, hx, rfl⟩ := List.mem_map.mp ht
      exact (h x hx).c
    have h2 := textFrom_le _ 0 "[" h1
    have h3 : (Str.ofString "[").length = 1 := rfl
    have h4 : (Str.ofString "]").length = 1 := rfl
    rw [List.length_map] at h2
    rw [strLen_append]
    omega
theorem SD.mono {n m : Nat} {d : PyData} (h : SD n d) (hn : n ≤ m) : SD m d := ⟨h.a, h.b, Nat.le_trans h.c hn⟩
theorem SD_frac {x : Frac} (h1 : x.1.natAbs < 10 ^ 98) (h2 : x.2.natAbs < 10 ^ 98) : SD 300 (.tuple [.int x.1, .int x.2]) := (SD_tuple (n := 100) (xs := [.int x.1, .int x.2]) (fun d hd => by
  simp only [List.mem_cons, List.not_mem_nil, or_false] at hd
  rcases hd with rfl | rfl
  · exact SD_int h1
  · exact SD_int h2)).mono (by simp only [List.length_cons, List.length_nil]; omega)
theorem SD_out (i : Nat) (hi : i < 65) : SD 1000 (oD i) := by
  have hx : ∀ l ∈ outsX, ∀ x ∈ l, x.natAbs ≤ 1 := by decide
  have z : (10 : Nat) ^ 98 > 100 := by decide
  have h1 : SD 300 (.tuple ((oX i).map PyData.int)) := (SD_tuple (n := 100) (fun d hd => by
    obtain ⟨x, hx1, rfl⟩ := List.mem_map.mp hd
    refine SD_int ?_
    have hm : oX i ∈ outsX := by
      unfold oX
      have hl : i / 5 < outsX.length := by show i / 5 < 13; omega
      rw [List.getD_eq_getElem?_getD, List.getElem?_eq_getElem hl]
      exact List.getElem_mem hl
    have := hx _ hm x hx1
    omega)).mono (by
      have := oX_len i
      rw [List.length_map]
      omega)
  refine (SD_tuple (n := 300) (xs := [.tuple ((oX i).map PyData.int), .int (oI i)]) (fun d hd => ?_)).mono (by simp only [List.length_cons, List.length_nil]; omega)
  simp only [List.mem_cons, List.not_mem_nil, or_false] at hd
  rcases hd with rfl | rfl
  · exact h1
  · refine (SD_int ?_).mono (by decide)
    unfold oI
    omega
/-- values that read as such data, anywhere -/
def Shows (v : Val) : Prop := ∃ d, (∀ S, toD S 11 v = some d) ∧ SD 5000 d
theorem toD_bl {S : Store} (d : Nat) (b : Bool) : toD S d (.bl b) = some (.bool b) := by cases d <;> rfl
theorem shows_bl (b : Bool) : Shows (.bl b) := ⟨.bool b, fun S => toD_bl 11 b, (SD_bool b).mono (by decide)⟩
/-- what is told by odds and odds_both can be shown -/
def orB : OR × Bool → OR := fun p => p.1
def OrOk : OR → Prop
  | .odds x i => x.1.natAbs < 10 ^ 98 ∧ x.2.natAbs < 10 ^ 98 ∧ i < 65
  | .endl i => i < 65
theorem shows_or {o : OR} (h : OrOk o) : Shows (orV o) := by
  cases o with
  | odds x i =>
    refine ⟨.tuple [.str "odds", .tuple [.int x.1, .int x.2], oD i], fun S => ?_, ?_⟩
    · show ([Val.str "odds", fV x, oV i].mapM (toD S 10)).map PyData.tuple = _
      rw [List.mapM_cons, List.mapM_cons, List.mapM_cons, toD_str 10 so1, toD_f, toD_out]
      rfl
    · refine (SD_tuple (n := 1000) (fun d hd => ?_)).mono (by simp only [List.length_cons, List.length_nil]; omega)
      simp only [List.mem_cons, List.not_mem_nil, or_false] at hd
      rcases hd with rfl | rfl | rfl
      · exact SD_odds.mono (by decide)
      · exact (SD_frac h.1 h.2.1).mono (by decide)
      · exact SD_out i h.2.2
  | endl i =>
    refine ⟨.tuple [.str "endless", oD i], fun S => ?_, ?_⟩
    · show ([Val.str "endless", oV i].mapM (toD S 10)).map PyData.tuple = _
      rw [List.mapM_cons, List.mapM_cons, toD_str 10 so2, toD_out]
      rfl
    · refine (SD_tuple (n := 1000) (fun d hd => ?_)).mono (by simp only [List.length_cons, List.length_nil]; omega)
      simp only [List.mem_cons, List.not_mem_nil, or_false] at hd
      rcases hd with rfl | rfl
      · exact SD_endless.mono (by decide)
      · exact SD_out i h
theorem shows_both {o : OR} (b : Bool) (h : OrOk o) : Shows (bothV (o, b)) := by
  cases o with
  | odds x i =>
    refine ⟨.tuple [.str "odds", .tuple [.int x.1, .int x.2], oD i, .bool b], fun S => ?_, ?_⟩
    · show ([Val.str "odds", fV x, oV i, .bl b].mapM (toD S 10)).map PyData.tuple = _
      rw [List.mapM_cons, List.mapM_cons, List.mapM_cons, List.mapM_cons, toD_str 10 so1, toD_f, toD_out, toD_bl]
      rfl
    · refine (SD_tuple (n := 1000) (fun d hd => ?_)).mono (by simp only [List.length_cons, List.length_nil]; omega)
      simp only [List.mem_cons, List.not_mem_nil, or_false] at hd
      rcases hd with rfl | rfl | rfl | rfl
      · exact SD_odds.mono (by decide)
      · exact (SD_frac h.1 h.2.1).mono (by decide)
      · exact SD_out i h.2.2
      · exact (SD_bool b).mono (by decide)
  | endl i =>
    refine ⟨.tuple [.str "endless", oD i, .bool b], fun S => ?_, ?_⟩
    · show ([Val.str "endless", oV i, .bl b].mapM (toD S 10)).map PyData.tuple = _
      rw [List.mapM_cons, List.mapM_cons, List.mapM_cons, toD_str 10 so2, toD_out, toD_bl]
      rfl
    · refine (SD_tuple (n := 1000) (fun d hd => ?_)).mono (by simp only [List.length_cons, List.length_nil]; omega)
      simp only [List.mem_cons, List.not_mem_nil, or_false] at hd
      rcases hd with rfl | rfl | rfl
      · exact SD_endless.mono (by decide)
      · exact SD_out i h
      · exact (SD_bool b).mono (by decide)
theorem shows_all {S : Store} : ∀ (vs : List Val), (∀ v ∈ vs, Shows v) → ∃ ds, vs.mapM (toD S 11) = some ds ∧ ds.length = vs.length ∧ ∀ d ∈ ds, SD 5000 d
  | [], _ => ⟨[], rfl, rfl, (fun _ h => nomatch h)⟩
  | v :: vs, h => by
    obtain ⟨ds, h1, h2, h3⟩ := shows_all vs fun v' h' => h v' (List.mem_cons_of_mem _ h')
    obtain ⟨d, h4, h5⟩ := h v (List.mem_cons_self ..)
    refine ⟨d :: ds, ?_, by rw [List.length_cons, List.length_cons, h2], fun x hx => ?_⟩
    · rw [List.mapM_cons, h4 S, h1]
      rfl
    · rcases List.mem_cons.mp hx with rfl | hx'
      · exact h5
      · exact h3 x hx'
theorem repr_ok {S : Store} {n : Nat} {vs : List Val} (hn : S[n]? = some (.lst vs)) (h : ∀ v ∈ vs, Shows v) (hl : vs.length ≤ 100) : ∃ x : Str, PyData.strOk x = true ∧ ∀ (S' : Store) (m : Nat), S'[m]? = some (.lst vs) → biop true .repr (.obj m) S' = .ok (.str x) S' := by
  obtain ⟨ds, h1, h2, h3⟩ := shows_all (S := S) vs h
  have hsd := SD_list h3
  refine ⟨(PyData.list ds).shown, hsd.b, fun S' m hm => ?_⟩
  obtain ⟨ds', h1', h2', h3'⟩ := shows_all (S := S') vs h
  have hds : ds' = ds := by
    have e : ∀ (vs : List Val), (∀ v ∈ vs, Shows v) → vs.mapM (toD S' 11) = vs.mapM (toD S 11) := by
      intro vs h
      induction vs with
      | nil => rfl
      | cons v vs ih =>
        obtain ⟨d, h4, h5⟩ := h v (List.mem_cons_self ..)
        rw [List.mapM_cons, List.mapM_cons, h4 S, h4 S', ih fun v' h' => h v' (List.mem_cons_of_mem _ h')]
    have := e vs h
    rw [h1, h1'] at this
    exact Option.some.inj this
  show (if isRef (.obj m) = true ∧ true = true then (match toD S' deepMost (.obj m) with
    | some d => if d.showable = true ∧ d.shown.length ≤ cap then R.ok (Val.str d.shown) S' else .stuck
    | none => .stuck) else .stuck) = _
  rw [if_pos (show isRef (.obj m) = true ∧ true = true from ⟨rfl, rfl⟩), show toD S' deepMost (.obj m) = _ from toD_obj 11 hm, h1', hds]
  show (if (PyData.list ds).showable = true ∧ (PyData.list ds).shown.length ≤ cap then R.ok (Val.str (PyData.list ds).shown) S' else .stuck) = _
  have hc : (PyData.list ds).shown.length ≤ cap := by
    have := hsd.c
    unfold cap
    omega
  rw [if_pos ⟨hsd.a, hc⟩]
theorem is_ok {k : Nat} {S : Store} {a b : Nat} {vs : List Val} (ha : S[a]? = some (.lst vs)) (hb : S[b]? = some (.lst vs)) (h : ∀ v ∈ vs, Shows v) (hl : vs.length ≤ 100) : CC (k + 3) true 22 [.obj a, .obj b] S = .ok (.bl true) S := by
  obtain ⟨x, hx, hr⟩ := repr_ok ha h hl
  have r1 := hr S a ha
  have r2 := hr S b hb
  have he : cmpop .eq (.str x) (.str x) S = .ok (.bl true) S := by rw [eq_str hx hx, beq_self_eq_true]
  rw [C_at (k := k) (np := 2) (nn := 2) (body := b__law_is) rfl rfl]
  simp only [b_cons, b_nil, s_asg, s_par, s_sub, s_ret, s_expr, s_ife, s_whl, s_for, s_raise, s_pass, e_cst, e_glb0, e_glb1, e_glb2, e_glb3, e_var, e_tup, e_lst, e_dnew, e_bin, e_neg, e_not, e_and, e_or, e_cmp, e_chn, e_ife, e_idx, e_slc, e_rev, e_call, e_bi, e_isi, e_app, e_get2, e_lam, e_lc, l_nil, l_cons, o_none, o_some, i_seq, i_range, i_zip, bind_ok, bind_err, toF_ok, toF_err, fbind_next, fbind_ret, fbind_err, asB_ok, asI_ok, asB_err, truth_ok, truth_err, set_name, set_tup, set_nil, set_cons, fend_next, fend_ret, fend_err, List.length_cons, List.length_nil, List.length_set, List.map_cons, List.map_nil, List.cons_append, List.nil_append, List.getElem?_cons_zero, List.getElem?_cons_succ, List.set_cons_zero, List.set_cons_succ, if_true, if_false, Bool.false_eq_true, Bool.not_true, Bool.not_false, reduceIte, and_self, Nat.reduceAdd, Nat.reduceLT, Nat.reduceLeDiff, Nat.reduceSub, Nat.reduceEqDiff, List.replicate_succ, List.replicate_zero, cap, b__law_is, r1, r2, he]
end Law
end

section
set_option Elab.async false
set_option linter.all false
set_option autoImplicit false
set_option maxRecDepth 100000
namespace Law
open PySem Ev
def l1 : IS := (.asg (.name 3) (.call 29 (.cons (.var 1) .nil)))
def l2 : IS := (.asg (.tup (.cons (.name 10) (.cons (.name 11) .nil))) (.tup (.cons (.call 30 (.cons (.var 1) (.cons (.call 31 (.cons (.var 1) (.cons (.var 3) .nil))) .nil))) (.cons (.call 30 (.cons (.var 1) (.cons (.call 31 (.cons (.var 1) (.cons (.var 3) .nil))) .nil))) .nil))))
def l3 : IS := (.asg (.name 4) (.lst (.cons (.call 27 (.cons (.var 10) (.cons (.var 11) .nil))) (.cons (.call 27 (.cons (.var 11) (.cons (.var 10) .nil))) (.cons (.call 28 (.cons (.var 10) (.cons (.var 11) .nil))) (.cons (.call 28 (.cons (.var 11) (.cons (.var 10) .nil))) .nil))))))
def l4 : IS := (.ife (.not (.call 22 (.cons (.lst (.cons (.call 14 (.cons (.var 10) (.cons (.var 11) .nil))) (.cons (.call 14 (.cons (.var 11) (.cons (.var 10) .nil))) (.cons (.call 16 (.cons (.var 10) (.cons (.var 11) .nil))) (.cons (.call 16 (.cons (.var 11) (.cons (.var 10) .nil))) .nil))))) (.cons (.var 4) .nil)))) (.cons (.ret (.cst (.bl false))) .nil) .nil)
def l5 : IS := (.asg (.name 5) (.bin .add (.lst (.cons (.tup (.cons (.cst (.int 1)) (.cons (.cst (.int 1)) .nil))) (.cons (.tup (.cons (.cst (.int 3)) (.cons (.cst (.int 2)) .nil))) (.cons (.tup (.cons (.cst (.int 2)) (.cons (.cst (.int 1)) .nil))) (.cons (.tup (.cons (.bin .pow (.cst (.int 10)) (.cst (.int 31))) (.cons (.cst (.int 1)) .nil))) .nil))))) (.ife (.cmp .eq (.idx (.idx (.var 4) (.cst (.int 2))) (.cst (.int 0))) (.cst (.str "odds"))) (.lst (.cons (.idx (.idx (.var 4) (.cst (.int 2))) (.cst (.int 1))) .nil)) (.lst .nil))))
def l6a : IS := (.asg (.name 12) (.and (.cmp .eq (.idx (.idx (.var 4) (.cst (.int 2))) (.cst (.int 0))) (.cst (.str "odds"))) (.not (.call 26 (.cons (.var 6) (.cons (.idx (.idx (.var 4) (.cst (.int 2))) (.cst (.int 1))) .nil))))))
def l6c : IS := (.ife (.not (.call 22 (.cons (.lst (.cons (.call 18 (.cons (.var 10) (.cons (.var 11) (.cons (.var 6) .nil)))) (.cons (.call 18 (.cons (.var 11) (.cons (.var 10) (.cons (.var 6) .nil)))) .nil))) (.cons (.lst (.cons (.var 12) (.cons (.var 12) .nil))) .nil)))) (.cons (.ret (.cst (.bl false))) .nil) .nil)
def l6b : IB := (.cons l6a (.cons l6c .nil))
def l6 : IS := (.for (.name 6) (.seq (.var 5)) l6b)
def l7 : IS := (.ife (.and (.cmp .eq (.idx (.idx (.var 4) (.cst (.int 0))) (.cst (.int 0))) (.cst (.str "odds"))) (.not (.call 33 (.cons (.var 1) (.cons (.var 10) (.cons (.var 11) (.cons (.idx (.idx (.var 4) (.cst (.int 0))) (.cst (.int 1))) .nil))))))) (.cons (.ret (.cst (.bl false))) .nil) .nil)
def l8 : IS := (.asg (.name 7) (.call 32 (.cons (.var 1) (.cons (.var 10) .nil))))
def l9 : IS := (.asg (.name 8) (.call 21 (.cons (.var 1) (.cons (.lst (.cons (.cst .non) (.cons (.tup (.cons (.cst (.int 1)) (.cons (.cst (.int 2)) .nil))) (.cons (.tup (.cons (.cst (.int 2)) (.cons (.cst (.int 4)) .nil))) (.cons (.cst (.int 2)) (.cons (.tup (.cons (.cst (.int 0)) (.cons (.cst (.int 1)) .nil))) (.cons (.tup (.cons (.cst (.bl true)) (.cons (.cst (.int 1)) .nil))) (.cons (.lst (.cons (.cst (.int 2)) (.cons (.cst (.int 1)) .nil))) (.cons (.cst (.str "1")) (.cons (.tup (.cons (.cst (.int 4)) (.cons (.cst (.int 2)) .nil))) .nil)))))))))) .nil))))
def l10 : IS := (.asg (.name 9) (.lst (.cons (.lam 0 (.call 14 (.cons (.var 7) (.cons (.var 11) .nil)))) .nil)))
def l11 : IS := (.expr (.app (.var 9) (.lam 0 (.call 14 (.cons (.var 10) (.cons (.var 7) .nil))))))
def l12 : IS := (.expr (.app (.var 9) (.lam 0 (.call 16 (.cons (.var 7) (.cons (.cst .non) .nil))))))
def l13 : IS := (.expr (.app (.var 9) (.lam 0 (.call 18 (.cons (.var 10) (.cons (.var 7) (.cons (.var 8) .nil)))))))
def l14 : IS := (.expr (.app (.var 9) (.lam 0 (.call 18 (.cons (.var 10) (.cons (.var 11) (.cons (.var 8) .nil)))))))
def l15 : IS := (.ife (.or (.cmp .ne (.var 9) (.bin .add (.bin .mul (.lst (.cons (.cst (.str "chances")) .nil)) (.cst (.int 4))) (.lst (.cons (.cst (.str "factor")) .nil)))) (.or (.cmp .isnot (.call 11 (.cons (.var 7) .nil)) (.cst (.bl false))) (.cmp .isnot (.call 11 (.cons (.var 10) .nil)) (.cst (.bl true))))) (.cons (.ret (.cst (.bl false))) .nil) .nil)
def lapB : IB := (.cons l1 (.cons l2 (.cons l3 (.cons l4 (.cons l5 (.cons l6 (.cons l7 (.cons l8 (.cons l9 (.cons l10 (.cons l11 (.cons l12 (.cons l13 (.cons l14 (.cons l15 .nil)))))))))))))))
def lawIt : II := (.range (.cst (.int 5)))
def lawB : IB := (.cons (.asg (.name 1) (.call 19 (.cons (.var 0) .nil))) (.cons (.ife (.not (.call 34 .nil)) (.cons (.ret (.cst (.bl false))) .nil) .nil) (.cons (.for (.name 2) lawIt lapB) (.cons (.ret (.cst (.bl true))) .nil))))
theorem law_is : b_law = lawB := rfl
section
variable {k : Nat} {g : Bool} {S : Store} {q : Ev.Ctx} {e : Ev.Env}
/-! facts of what odds tells -/
def orIx : OR → Nat
  | .odds _ i => i
  | .endl i => i
theorem goO_ix (m : List (Nat × Frac)) : ∀ (r : List (Nat × Frac)) (best : Option (Frac × Nat)), (∀ p ∈ r, p.1 < 65) → (∀ b j, best = some (b, j) → j < 65) → orIx (goO m r best) < 65
  | [], none, _, _ => by show 0 < 65; decide
  | [], some (b, j), _, h => h b j rfl
  | p :: r, best, hr, hb => by
    unfold goO
    have hp := hr p (List.mem_cons_self ..)
    cases hg : get m p.1 with
    | none => exact hp
    | some d =>
      refine goO_ix m r _ (fun p' h' => hr p' (List.mem_cons_of_mem _ h')) (fun b j hbj => ?_)
      injection hbj with hbj
      cases best with
      | none =>
        injection hbj with _ h2
        rw [← h2]
        exact hp
      | some bj =>
        obtain ⟨b0, j0⟩ := bj
        unfold stepO at hbj
        simp only [] at hbj
        split at hbj
        · injection hbj with _ h2
          rw [← h2]
          exact hp
        · injection hbj with _ h2
          rw [← h2]
          exact hb b0 j0 rfl
theorem odds_OrOk {l m : List (Nat × Frac)} (hl : Ch l) (hm : Ch m) : OrOk (oddsP l m) := by
  have hi := goO_ix m l none hl.lt (fun _ _ h => nomatch h)
  have hi' : orIx (oddsP l m) < 65 := hi
  cases h : oddsP l m with
  | endl i =>
    rw [h] at hi'
    exact hi'
  | odds x i =>
    rw [h] at hi'
    obtain ⟨h1, h2, h3⟩ := odds_small hl hm h
    have z : (10 : Nat) ^ 62 < 10 ^ 98 := by decide
    exact ⟨Nat.lt_of_le_of_lt h1 z, Nat.lt_of_le_of_lt h2 z, hi'⟩
theorem both_one (a b : OR) : (bothP a b).1 = a ∨ (bothP a b).1 = b := by
  cases a with
  | endl i => exact .inl rfl
  | odds x i =>
    cases b with
    | endl j => exact .inr rfl
    | odds y j =>
      unfold bothP
      simp only []
      split
      · exact .inr rfl
      · exact .inl rfl
theorem both_OrOk {l m : List (Nat × Frac)} (hl : Ch l) (hm : Ch m) : OrOk (bothP (oddsP l m) (oddsP m l)).1 := by
  rcases both_one (oddsP l m) (oddsP m l) with h | h
  · rw [h]; exact odds_OrOk hl hm
  · rw [h]; exact odds_OrOk hm hl
/-- a factor in lowest terms, short -/
structure Fac (f : Frac) : Prop where
  fr : Fr f
  sh : ShF f
  ge : f.2 ≤ f.1
theorem odds_Fac {l m : List (Nat × Int)} (hl : D l) (hm : D m) {x : Frac} {j : Nat} (h : oddsP (dl l) (dl m) = .odds x j) : Fac x := by
  obtain ⟨a, b, h1, h2, h3, h4⟩ := odds_rd hl.ch hm.ch h
  have z : (10 : Nat) ^ 62 < WW := of_decide_eq_true rfl
  exact ⟨by rw [h1]; exact rd_Fr a b h2 (Nat.lt_of_le_of_lt h4 z), odds_sh hl.ch hm.ch h, odds_ge hl hm h⟩
theorem both_Fac {l m : List (Nat × Int)} (hl : D l) (hm : D m) {x : Frac} {j : Nat} {t : Bool} (h : bothP (oddsP (dl l) (dl m)) (oddsP (dl m) (dl l)) = (.odds x j, t)) : Fac x := by
  rcases both_one (oddsP (dl l) (dl m)) (oddsP (dl m) (dl l)) with h1 | h1
  · rw [h] at h1
    exact odds_Fac hl hm h1.symm
  · rw [h] at h1
    exact odds_Fac hm hl h1.symm
theorem fac_1 : Fac (1, 1) := ⟨⟨by decide, of_decide_eq_true rfl, by decide⟩, ⟨by decide, by decide, by decide⟩, by decide⟩
theorem fac_2 : Fac (3, 2) := ⟨⟨by decide, of_decide_eq_true rfl, by decide⟩, ⟨by decide, by decide, by decide⟩, by decide⟩
theorem fac_3 : Fac (2, 1) := ⟨⟨by decide, of_decide_eq_true rfl, by decide⟩, ⟨by decide, by decide, by decide⟩, by decide⟩
theorem fac_4 : Fac (10 ^ 31, 1) := ⟨⟨by decide, of_decide_eq_true rfl, by decide⟩, ⟨by decide, by decide, by decide⟩, by decide⟩
theorem within_sym {a b : OR} (ha : ∀ x i, a = .odds x i → 0 < x.2) (hb : ∀ x i, b = .odds x i → 0 < x.2) (f : Frac) (hf : 0 < f.2) : withinP (bothP a b) f = withinP (bothP b a) f := by
  cases a with
  | endl i =>
    cases b with
    | endl j => rfl
    | odds y j => rfl
  | odds x i =>
    cases b with
    | endl j => rfl
    | odds y j =>
      have hx := ha x i rfl
      have hy := hb y j rfl
      unfold bothP
      simp only []
      by_cases h1 : x.1 * y.2 < y.1 * x.2
      · rw [if_pos h1, if_neg (by omega)]
        rfl
      · by_cases h2 : y.1 * x.2 < x.1 * y.2
        · rw [if_neg h1, if_pos h2]
          rfl
        · rw [if_neg h1, if_neg h2]
          unfold withinP
          simp only []
          have l1 : leF x y := by unfold leF; omega
          have l2 : leF y x := by unfold leF; omega
          rw [decide_eq_decide]
          exact ⟨fun h => leF_trans hy hx hf l2 h, fun h => leF_trans hx hy hf l1 h⟩
theorem sub_outs {L L' : List Nat} (h : L'.Sublist L) (hL : Outs L) : Outs L' := ⟨fun i hi => hL.lt i (h.subset hi), hL.up.sublist h, Nat.le_trans h.length_le hL.few⟩
/-! the lap, statement by statement -/
abbrev Q (k : Nat) : Ev.Ctx := ⟨CC (k + 14) true, CC (k + 12) false, true⟩
section
variable {m : Nat} {sc : Val} {x2 x3 x4 x5 x6 x7 x8 x9 x10 x11 x12 : Option Val}
theorem l1_ok (hS : Hd m S) (hm : m < 10 ^ 6) : ∃ (S' : Store) (n : Nat) (L : List Nat), evS G LT WW (Q k) l1 [some sc, some (.obj 2), x2, x3, x4, x5, x6, x7, x8, x9, x10, x11, x12] S = .next [some sc, some (.obj 2), x2, some (.obj n), x4, x5, x6, x7, x8, x9, x10, x11, x12] S' ∧ S'[n]? = some (.lst (L.map oV)) ∧ n ≠ 2 ∧ Outs L ∧ L ≠ [] ∧ L.length ≤ 7 ∧ Keep S S' ∧ Hd (m + 40) S' := by
  obtain ⟨S', n, L, h1, h2, h3, h4, h5, h6, h7, h8⟩ := pool_ok (k := k + 10) (g := true) hS hm
  refine ⟨S', n, L, ?_, h2, h3, h4, h5, h6, h7, h8⟩
  simp only [b_cons, b_nil, s_asg, s_par, s_sub, s_ret, s_expr, s_ife, s_whl, s_for, s_raise, s_pass, e_cst, e_glb0, e_glb1, e_glb2, e_glb3, e_var, e_tup, e_lst, e_dnew, e_bin, e_neg, e_not, e_and, e_or, e_cmp, e_chn, e_ife, e_idx, e_slc, e_rev, e_call, e_bi, e_isi, e_app, e_get2, e_lam, e_lc, l_nil, l_cons, o_none, o_some, i_seq, i_range, i_zip, bind_ok, bind_err, toF_ok, toF_err, fbind_next, fbind_ret, fbind_err, asB_ok, asI_ok, asB_err, truth_ok, truth_err, set_name, set_tup, set_nil, set_cons, fend_next, fend_ret, fend_err, List.length_cons, List.length_nil, List.length_set, List.map_cons, List.map_nil, List.cons_append, List.nil_append, List.getElem?_cons_zero, List.getElem?_cons_succ, List.set_cons_zero, List.set_cons_succ, if_true, if_false, Bool.false_eq_true, Bool.not_true, Bool.not_false, reduceIte, and_self, Nat.reduceAdd, Nat.reduceLT, Nat.reduceLeDiff, Nat.reduceSub, Nat.reduceEqDiff, List.replicate_succ, List.replicate_zero, cap, l1, h1]
theorem one_ok {n : Nat} {L : List Nat} (hS : Hd m S) (hm : m < 10 ^ 6) (hn : S[n]? = some (.lst (L.map oV))) (h2 : n ≠ 2) (ho : Outs L) (h0 : L ≠ []) (h7 : L.length ≤ 7) :
    ∃ (S1 S2 : Store) (n' : Nat) (iw : List (Nat × Int)), CC (k + 14) true 31 [.obj 2, .obj n] S = .ok (.obj n') S1 ∧ CC (k + 14) true 30 [.obj 2, .obj n'] S1 = .ok (chV (dl iw)) S2 ∧ D iw ∧ Keep S S2 ∧ Hd (m + 15) S2 := by
  obtain ⟨S1, n', L', a1, a2, a3, a4, a5, a6, a7⟩ := lacking_ok (k := k + 10) (g := true) hS (by omega) hn h2 h0 h7
  obtain ⟨S2, iw, b1, b2, b3, b4⟩ := weighed_ok (k := k + 9) (g := true) a7 (by omega) a2 a3 (sub_outs a4 ho) (Nat.le_trans a4.length_le h7) a5
  exact ⟨S1, S2, n', iw, a1, b1, b2, a6.trans b3, b4.mono (by omega)⟩
theorem l2_ok {n : Nat} {L : List Nat} (hS : Hd m S) (hm : m < 10 ^ 5) (hn : S[n]? = some (.lst (L.map oV))) (h2 : n ≠ 2) (ho : Outs L) (h0 : L ≠ []) (h7 : L.length ≤ 7) :
    ∃ (S' : Store) (l r : List (Nat × Int)), evS G LT WW (Q k) l2 [some sc, some (.obj 2), x2, some (.obj n), x4, x5, x6, x7, x8, x9, x10, x11, x12] S = .next [some sc, some (.obj 2), x2, some (.obj n), x4, x5, x6, x7, x8, x9, some (chV (dl l)), some (chV (dl r)), x12] S' ∧ D l ∧ D r ∧ Keep S S' ∧ Hd (m + 30) S' := by
  obtain ⟨S1, S2, n1, l, a1, a2, a3, a4, a5⟩ := one_ok (k := k) hS (by omega) hn h2 ho h0 h7
  obtain ⟨S3, S4, n2, r, b1, b2, b3, b4, b5⟩ := one_ok (k := k) a5 (by omega) (a4.get h2 hn) h2 ho h0 h7
  refine ⟨S4, l, r, ?_, a3, b3, a4.trans b4, b5.mono (by omega)⟩
  simp only [b_cons, b_nil, s_asg, s_par, s_sub, s_ret, s_expr, s_ife, s_whl, s_for, s_raise, s_pass, e_cst, e_glb0, e_glb1, e_glb2, e_glb3, e_var, e_tup, e_lst, e_dnew, e_bin, e_neg, e_not, e_and, e_or, e_cmp, e_chn, e_ife, e_idx, e_slc, e_rev, e_call, e_bi, e_isi, e_app, e_get2, e_lam, e_lc, l_nil, l_cons, o_none, o_some, i_seq, i_range, i_zip, bind_ok, bind_err, toF_ok, toF_err, fbind_next, fbind_ret, fbind_err, asB_ok, asI_ok, asB_err, truth_ok, truth_err, set_name, set_tup, set_nil, set_cons, fend_next, fend_ret, fend_err, List.length_cons, List.length_nil, List.length_set, List.map_cons, List.map_nil, List.cons_append, List.nil_append, List.getElem?_cons_zero, List.getElem?_cons_succ, List.set_cons_zero, List.set_cons_succ, if_true, if_false, Bool.false_eq_true, Bool.not_true, Bool.not_false, reduceIte, and_self, Nat.reduceAdd, Nat.reduceLT, Nat.reduceLeDiff, Nat.reduceSub, Nat.reduceEqDiff, List.replicate_succ, List.replicate_zero, cap, l2, a1, a2, b1, b2]
/-- the due ones -/
def dueL (l r : List (Nat × Int)) : List Val := [orV (oddsP (dl l) (dl r)), orV (oddsP (dl r) (dl l)), bothV (bothP (oddsP (dl l) (dl r)) (oddsP (dl r) (dl l))), bothV (bothP (oddsP (dl r) (dl l)) (oddsP (dl l) (dl r)))]
theorem due_shows {l r : List (Nat × Int)} (hl : D l) (hr : D r) : ∀ v ∈ dueL l r, Shows v := by
  intro v hv
  unfold dueL at hv
  simp only [List.mem_cons, List.not_mem_nil, or_false] at hv
  rcases hv with rfl | rfl | rfl | rfl
  · exact shows_or (odds_OrOk hl.ch hr.ch)
  · exact shows_or (odds_OrOk hr.ch hl.ch)
  · exact shows_both _ (both_OrOk hl.ch hr.ch)
  · exact shows_both _ (both_OrOk hr.ch hl.ch)
theorem l3_ok {l r : List (Nat × Int)} (hl : D l) (hr : D r) : ∃ (J : Store) (n : Nat), evS G LT WW (Q k) l3 [some sc, some (.obj 2), x2, x3, x4, x5, x6, x7, x8, x9, some (chV (dl l)), some (chV (dl r)), x12] S = .next [some sc, some (.obj 2), x2, x3, some (.obj n), x5, x6, x7, x8, x9, some (chV (dl l)), some (chV (dl r)), x12] (S ++ J) ∧ (S ++ J)[n]? = some (.lst (dueL l r)) ∧ S.length ≤ n := by
  obtain ⟨J1, h1⟩ := (law_odds_ok (k := k + 6) (g := true) (S := S) _ _ hl.ch hr.ch).now
  obtain ⟨J2, h2⟩ := (law_odds_ok (k := k + 6) (g := true) (S := S ++ J1) _ _ hr.ch hl.ch).now
  obtain ⟨J3, h3⟩ := (law_both_ok (k := k + 5) (g := true) (S := S ++ J1 ++ J2) hl.ch hr.ch).now
  obtain ⟨J4, h4⟩ := (law_both_ok (k := k + 5) (g := true) (S := S ++ J1 ++ J2 ++ J3) hr.ch hl.ch).now
  refine ⟨J1 ++ J2 ++ J3 ++ J4 ++ [.lst (dueL l r)], (S ++ J1 ++ J2 ++ J3 ++ J4).length, ?_, ?_, ?_⟩
  · unfold dueL
    simp only [b_cons, b_nil, s_asg, s_par, s_sub, s_ret, s_expr, s_ife, s_whl, s_for, s_raise, s_pass, e_cst, e_glb0, e_glb1, e_glb2, e_glb3, e_var, e_tup, e_lst, e_dnew, e_bin, e_neg, e_not, e_and, e_or, e_cmp, e_chn, e_ife, e_idx, e_slc, e_rev, e_call, e_bi, e_isi, e_app, e_get2, e_lam, e_lc, l_nil, l_cons, o_none, o_some, i_seq, i_range, i_zip, bind_ok, bind_err, toF_ok, toF_err, fbind_next, fbind_ret, fbind_err, asB_ok, asI_ok, asB_err, truth_ok, truth_err, set_name, set_tup, set_nil, set_cons, fend_next, fend_ret, fend_err, List.length_cons, List.length_nil, List.length_set, List.map_cons, List.map_nil, List.cons_append, List.nil_append, List.getElem?_cons_zero, List.getElem?_cons_succ, List.set_cons_zero, List.set_cons_succ, if_true, if_false, Bool.false_eq_true, Bool.not_true, Bool.not_false, reduceIte, and_self, Nat.reduceAdd, Nat.reduceLT, Nat.reduceLeDiff, Nat.reduceSub, Nat.reduceEqDiff, List.replicate_succ, List.replicate_zero, cap, l3, h1, h2, h3, h4, alloc_ok]
    simp only [List.append_assoc]
  · have : S ++ (J1 ++ J2 ++ J3 ++ J4 ++ [Cell.lst (dueL l r)]) = S ++ J1 ++ J2 ++ J3 ++ J4 ++ [.lst (dueL l r)] := by simp only [List.append_assoc]
    rw [this]
    exact app_last
  · simp only [List.length_append]
    omega
theorem l4_ok {l r : List (Nat × Int)} {n : Nat} (hl : D l) (hr : D r) (hn : S[n]? = some (.lst (dueL l r))) : ∃ (J : Store), evS G LT WW (Q k) l4 [some sc, some (.obj 2), x2, x3, some (.obj n), x5, x6, x7, x8, x9, some (chV (dl l)), some (chV (dl r)), x12] S = .next [some sc, some (.obj 2), x2, x3, some (.obj n), x5, x6, x7, x8, x9, some (chV (dl l)), some (chV (dl r)), x12] (S ++ J) := by
  obtain ⟨J1, h1⟩ := (odds_ok (k := k + 4) (g := true) (S := S) hl hr).now
  obtain ⟨J2, h2⟩ := (odds_ok (k := k + 4) (g := true) (S := S ++ J1) hr hl).now
  obtain ⟨J3, h3⟩ := (odds_both_ok (k := k + 4) (g := true) (S := S ++ J1 ++ J2) hl hr).now
  obtain ⟨J4, h4⟩ := (odds_both_ok (k := k + 4) (g := true) (S := S ++ J1 ++ J2 ++ J3) hr hl).now
  have hn' : (S ++ J1 ++ J2 ++ J3 ++ J4 ++ [Cell.lst (dueL l r)])[n]? = some (.lst (dueL l r)) := app_get (app_get (app_get (app_get (app_get hn))))
  have hi := is_ok (k := k + 11) (S := S ++ J1 ++ J2 ++ J3 ++ J4 ++ [.lst (dueL l r)]) app_last hn' (due_shows hl hr) (show (4 : Nat) ≤ 100 by decide)
  refine ⟨J1 ++ J2 ++ J3 ++ J4 ++ [.lst (dueL l r)], ?_⟩
  unfold dueL at hi ⊢
  simp only [b_cons, b_nil, s_asg, s_par, s_sub, s_ret, s_expr, s_ife, s_whl, s_for, s_raise, s_pass, e_cst, e_glb0, e_glb1, e_glb2, e_glb3, e_var, e_tup, e_lst, e_dnew, e_bin, e_neg, e_not, e_and, e_or, e_cmp, e_chn, e_ife, e_idx, e_slc, e_rev, e_call, e_bi, e_isi, e_app, e_get2, e_lam, e_lc, l_nil, l_cons, o_none, o_some, i_seq, i_range, i_zip, bind_ok, bind_err, toF_ok, toF_err, fbind_next, fbind_ret, fbind_err, asB_ok, asI_ok, asB_err, truth_ok, truth_err, set_name, set_tup, set_nil, set_cons, fend_next, fend_ret, fend_err, List.length_cons, List.length_nil, List.length_set, List.map_cons, List.map_nil, List.cons_append, List.nil_append, List.getElem?_cons_zero, List.getElem?_cons_succ, List.set_cons_zero, List.set_cons_succ, if_true, if_false, Bool.false_eq_true, Bool.not_true, Bool.not_false, reduceIte, and_self, Nat.reduceAdd, Nat.reduceLT, Nat.reduceLeDiff, Nat.reduceSub, Nat.reduceEqDiff, List.replicate_succ, List.replicate_zero, cap, l4, h1, h2, h3, h4, alloc_ok, hi]
  simp only [List.append_assoc]
end
end
end Law
end

section
set_option Elab.async false
set_option linter.all false
set_option autoImplicit false
set_option maxRecDepth 100000
namespace Law
open PySem Ev
section
variable {k : Nat} {S : Store} {q : Ev.Ctx} {e : Ev.Env}
variable {m n : Nat} {sc : Val} {x2 x3 x4 x5 x6 x7 x8 x9 x10 x11 x12 : Option Val} {l r : List (Nat × Int)}
def bothLR (l r : List (Nat × Int)) : OR × Bool := bothP (oddsP (dl l) (dl r)) (oddsP (dl r) (dl l))
def facs (l r : List (Nat × Int)) : List Frac := [(1, 1), (3, 2), (2, 1), (10 ^ 31, 1)] ++ match bothLR l r with
  | (.odds x _, _) => [x]
  | _ => []
theorem pow31 : binop .pow (.int 10) (.int 31) S = .ok (.int (10 ^ 31)) S := rfl
theorem due_2 (hn : S[n]? = some (.lst (dueL l r))) : idxop (.obj n) (.int 2) S = .ok (bothV (bothLR l r)) S := ix_o hn (by decide) rfl
theorem due_0 (hn : S[n]? = some (.lst (dueL l r))) : idxop (.obj n) (.int 0) S = .ok (orV (oddsP (dl l) (dl r))) S := ix_o hn (by decide) rfl
theorem facs_ok (hl : D l) (hr : D r) : ∀ f ∈ facs l r, Fac f := by
  intro f hf
  unfold facs at hf
  rcases List.mem_append.mp hf with h | h
  · simp only [List.mem_cons, List.not_mem_nil, or_false] at h
    rcases h with rfl | rfl | rfl | rfl
    · exact fac_1
    · exact fac_2
    · exact fac_3
    · exact fac_4
  · cases hb : bothLR l r with
    | mk o t =>
      rw [hb] at h
      cases o with
      | endl i => exact absurd h (by simp)
      | odds x i =>
        have : f = x := by simpa using h
        rw [this]
        exact both_Fac hl hr hb
theorem facs_len : (facs l r).length ≤ 5 := by
  unfold facs
  cases bothLR l r with
  | mk o t => cases o <;> simp
theorem l5_ok (hn : S[n]? = some (.lst (dueL l r))) : ∃ (J : Store) (n5 : Nat), evS G LT WW (Q k) l5 [some sc, some (.obj 2), x2, x3, some (.obj n), x5, x6, x7, x8, x9, x10, x11, x12] S = .next [some sc, some (.obj 2), x2, x3, some (.obj n), some (.obj n5), x6, x7, x8, x9, x10, x11, x12] (S ++ J) ∧ (S ++ J)[n5]? = some (.lst ((facs l r).map fV)) ∧ S.length ≤ n5 := by
  have hn1 : (S ++ [Cell.lst [fV (1, 1), fV (3, 2), fV (2, 1), fV (10 ^ 31, 1)]])[n]? = some (.lst (dueL l r)) := app_get hn
  have h2 := due_2 hn1
  have g1 : (S ++ [Cell.lst [fV (1, 1), fV (3, 2), fV (2, 1), fV (10 ^ 31, 1)]])[S.length]? = _ := app_last
  cases hb : bothLR l r with
  | mk o t =>
    rw [hb] at h2
    cases o with
    | endl i =>
      have ha := add_oo (S := S ++ [Cell.lst [fV (1, 1), fV (3, 2), fV (2, 1), fV (10 ^ 31, 1)]] ++ [.lst []]) (app_get g1) app_last (by decide)
      refine ⟨[Cell.lst [fV (1, 1), fV (3, 2), fV (2, 1), fV (10 ^ 31, 1)]] ++ [.lst []] ++ [.lst ((facs l r).map fV)], (S ++ [Cell.lst [fV (1, 1), fV (3, 2), fV (2, 1), fV (10 ^ 31, 1)]] ++ [Cell.lst []]).length, ?_, ?_, by simp only [List.length_append]; omega⟩
      · have hf : (facs l r).map fV = [fV (1, 1), fV (3, 2), fV (2, 1), fV (10 ^ 31, 1)] ++ [] := by unfold facs; rw [hb]; rfl
        rw [hf]
        unfold fV at h2 ha ⊢
        unfold bothV at h2
        simp only [b_cons, b_nil, s_asg, s_par, s_sub, s_ret, s_expr, s_ife, s_whl, s_for, s_raise, s_pass, e_cst, e_glb0, e_glb1, e_glb2, e_glb3, e_var, e_tup, e_lst, e_dnew, e_bin, e_neg, e_not, e_and, e_or, e_cmp, e_chn, e_ife, e_idx, e_slc, e_rev, e_call, e_bi, e_isi, e_app, e_get2, e_lam, e_lc, l_nil, l_cons, o_none, o_some, i_seq, i_range, i_zip, bind_ok, bind_err, toF_ok, toF_err, fbind_next, fbind_ret, fbind_err, asB_ok, asI_ok, asB_err, truth_ok, truth_err, set_name, set_tup, set_nil, set_cons, fend_next, fend_ret, fend_err, List.length_cons, List.length_nil, List.length_set, List.map_cons, List.map_nil, List.cons_append, List.nil_append, List.getElem?_cons_zero, List.getElem?_cons_succ, List.set_cons_zero, List.set_cons_succ, if_true, if_false, Bool.false_eq_true, Bool.not_true, Bool.not_false, reduceIte, and_self, Nat.reduceAdd, Nat.reduceLT, Nat.reduceLeDiff, Nat.reduceSub, Nat.reduceEqDiff, List.replicate_succ, List.replicate_zero, cap, l5, pow31, alloc_ok, h2, ix0, eq_eo, ha]
        simp only [List.append_assoc, List.cons_append, List.nil_append]
      · rw [← List.append_assoc, ← List.append_assoc]
        exact app_last
    | odds x i =>
      have ha := add_oo (S := S ++ [Cell.lst [fV (1, 1), fV (3, 2), fV (2, 1), fV (10 ^ 31, 1)]] ++ [.lst [fV x]]) (app_get g1) app_last (by show 5 ≤ cap; decide)
      refine ⟨[Cell.lst [fV (1, 1), fV (3, 2), fV (2, 1), fV (10 ^ 31, 1)]] ++ [.lst [fV x]] ++ [.lst ((facs l r).map fV)], (S ++ [Cell.lst [fV (1, 1), fV (3, 2), fV (2, 1), fV (10 ^ 31, 1)]] ++ [Cell.lst [fV x]]).length, ?_, ?_, by simp only [List.length_append]; omega⟩
      · have hf : (facs l r).map fV = [fV (1, 1), fV (3, 2), fV (2, 1), fV (10 ^ 31, 1)] ++ [fV x] := by unfold facs; rw [hb]; rfl
        rw [hf]
        unfold fV at h2 ha ⊢
        unfold bothV at h2
        unfold fV at h2
        simp only [b_cons, b_nil, s_asg, s_par, s_sub, s_ret, s_expr, s_ife, s_whl, s_for, s_raise, s_pass, e_cst, e_glb0, e_glb1, e_glb2, e_glb3, e_var, e_tup, e_lst, e_dnew, e_bin, e_neg, e_not, e_and, e_or, e_cmp, e_chn, e_ife, e_idx, e_slc, e_rev, e_call, e_bi, e_isi, e_app, e_get2, e_lam, e_lc, l_nil, l_cons, o_none, o_some, i_seq, i_range, i_zip, bind_ok, bind_err, toF_ok, toF_err, fbind_next, fbind_ret, fbind_err, asB_ok, asI_ok, asB_err, truth_ok, truth_err, set_name, set_tup, set_nil, set_cons, fend_next, fend_ret, fend_err, List.length_cons, List.length_nil, List.length_set, List.map_cons, List.map_nil, List.cons_append, List.nil_append, List.getElem?_cons_zero, List.getElem?_cons_succ, List.set_cons_zero, List.set_cons_succ, if_true, if_false, Bool.false_eq_true, Bool.not_true, Bool.not_false, reduceIte, and_self, Nat.reduceAdd, Nat.reduceLT, Nat.reduceLeDiff, Nat.reduceSub, Nat.reduceEqDiff, List.replicate_succ, List.replicate_zero, cap, l5, pow31, alloc_ok, h2, ix0, ix1, eq_oo, ha]
        simp only [List.append_assoc, List.cons_append, List.nil_append]
      · rw [← List.append_assoc, ← List.append_assoc]
        exact app_last
theorem odds_pos {x : Frac} {i : Nat} (hl : D l) (hr : D r) (h : oddsP (dl l) (dl r) = .odds x i) : 0 < x.2 := (odds_sh hl.ch hr.ch h).2.2
theorem l6a_ok {f : Frac} (hn : S[n]? = some (.lst (dueL l r))) (hf : Fac f) (hl : D l) (hr : D r) : evS G LT WW (Q k) l6a [some sc, some (.obj 2), x2, x3, some (.obj n), x5, some (fV f), x7, x8, x9, x10, x11, x12] S = .next [some sc, some (.obj 2), x2, x3, some (.obj n), x5, some (fV f), x7, x8, x9, x10, x11, some (.bl (withinP (bothLR l r) f))] S := by
  have h2 := due_2 hn
  cases hb : bothLR l r with
  | mk o t =>
    rw [hb] at h2
    cases o with
    | endl i =>
      simp only [b_cons, b_nil, s_asg, s_par, s_sub, s_ret, s_expr, s_ife, s_whl, s_for, s_raise, s_pass, e_cst, e_glb0, e_glb1, e_glb2, e_glb3, e_var, e_tup, e_lst, e_dnew, e_bin, e_neg, e_not, e_and, e_or, e_cmp, e_chn, e_ife, e_idx, e_slc, e_rev, e_call, e_bi, e_isi, e_app, e_get2, e_lam, e_lc, l_nil, l_cons, o_none, o_some, i_seq, i_range, i_zip, bind_ok, bind_err, toF_ok, toF_err, fbind_next, fbind_ret, fbind_err, asB_ok, asI_ok, asB_err, truth_ok, truth_err, set_name, set_tup, set_nil, set_cons, fend_next, fend_ret, fend_err, List.length_cons, List.length_nil, List.length_set, List.map_cons, List.map_nil, List.cons_append, List.nil_append, List.getElem?_cons_zero, List.getElem?_cons_succ, List.set_cons_zero, List.set_cons_succ, if_true, if_false, Bool.false_eq_true, Bool.not_true, Bool.not_false, reduceIte, and_self, Nat.reduceAdd, Nat.reduceLT, Nat.reduceLeDiff, Nat.reduceSub, Nat.reduceEqDiff, List.replicate_succ, List.replicate_zero, cap, l6a, h2, bothV, ix0, eq_eo, withinP]
    | odds x i =>
      have hle := less_ok (k := k + 11) (g := true) (S := S) f x hf.sh (bothP_sh hl.ch hr.ch hb)
      have e1 : (!decide (f.1 * x.2 < x.1 * f.2)) = decide (x.1 * f.2 ≤ f.1 * x.2) := by
        rw [← decide_not, decide_eq_decide]
        omega
      simp only [b_cons, b_nil, s_asg, s_par, s_sub, s_ret, s_expr, s_ife, s_whl, s_for, s_raise, s_pass, e_cst, e_glb0, e_glb1, e_glb2, e_glb3, e_var, e_tup, e_lst, e_dnew, e_bin, e_neg, e_not, e_and, e_or, e_cmp, e_chn, e_ife, e_idx, e_slc, e_rev, e_call, e_bi, e_isi, e_app, e_get2, e_lam, e_lc, l_nil, l_cons, o_none, o_some, i_seq, i_range, i_zip, bind_ok, bind_err, toF_ok, toF_err, fbind_next, fbind_ret, fbind_err, asB_ok, asI_ok, asB_err, truth_ok, truth_err, set_name, set_tup, set_nil, set_cons, fend_next, fend_ret, fend_err, List.length_cons, List.length_nil, List.length_set, List.map_cons, List.map_nil, List.cons_append, List.nil_append, List.getElem?_cons_zero, List.getElem?_cons_succ, List.set_cons_zero, List.set_cons_succ, if_true, if_false, Bool.false_eq_true, Bool.not_true, Bool.not_false, reduceIte, and_self, Nat.reduceAdd, Nat.reduceLT, Nat.reduceLeDiff, Nat.reduceSub, Nat.reduceEqDiff, List.replicate_succ, List.replicate_zero, cap, l6a, h2, bothV, ix0, ix1, eq_oo, withinP, hle, e1]
theorem l6c_ok {f : Frac} (hf : Fac f) (hl : D l) (hr : D r) : ∃ J, evS G LT WW (Q k) l6c [some sc, some (.obj 2), x2, x3, x4, x5, some (fV f), x7, x8, x9, some (chV (dl l)), some (chV (dl r)), some (.bl (withinP (bothLR l r) f))] S = .next [some sc, some (.obj 2), x2, x3, x4, x5, some (fV f), x7, x8, x9, some (chV (dl l)), some (chV (dl r)), some (.bl (withinP (bothLR l r) f))] (S ++ J) := by
  obtain ⟨J1, h1⟩ := (within_ok (k := k + 4) (g := true) (S := S) hl hr f hf.fr hf.sh hf.ge).now
  obtain ⟨J2, h2⟩ := (within_ok (k := k + 4) (g := true) (S := S ++ J1) hr hl f hf.fr hf.sh hf.ge).now
  have hs : withinP (bothP (oddsP (dl r) (dl l)) (oddsP (dl l) (dl r))) f = withinP (bothLR l r) f := within_sym (fun x i h => odds_pos hr hl h) (fun x i h => odds_pos hl hr h) f hf.sh.2.2
  rw [hs] at h2
  have h1' : CC (k + 14) true 18 [chV (dl l), chV (dl r), fV f] S = .ok (.bl (withinP (bothLR l r) f)) (S ++ J1) := h1
  generalize withinP (bothLR l r) f = w at *
  have hi := is_ok (k := k + 11) (vs := [.bl w, .bl w]) (S := S ++ J1 ++ J2 ++ [.lst [.bl w, .bl w]] ++ [.lst [.bl w, .bl w]]) (a := (S ++ J1 ++ J2).length) (b := (S ++ J1 ++ J2 ++ [Cell.lst [.bl w, .bl w]]).length) (app_get app_last) app_last (fun v hv => by
    have : v = .bl w := by simpa using hv
    rw [this]
    exact shows_bl w) (show (2 : Nat) ≤ 100 by decide)
  refine ⟨J1 ++ J2 ++ [.lst [.bl w, .bl w]] ++ [.lst [.bl w, .bl w]], ?_⟩
  simp only [b_cons, b_nil, s_asg, s_par, s_sub, s_ret, s_expr, s_ife, s_whl, s_for, s_raise, s_pass, e_cst, e_glb0, e_glb1, e_glb2, e_glb3, e_var, e_tup, e_lst, e_dnew, e_bin, e_neg, e_not, e_and, e_or, e_cmp, e_chn, e_ife, e_idx, e_slc, e_rev, e_call, e_bi, e_isi, e_app, e_get2, e_lam, e_lc, l_nil, l_cons, o_none, o_some, i_seq, i_range, i_zip, bind_ok, bind_err, toF_ok, toF_err, fbind_next, fbind_ret, fbind_err, asB_ok, asI_ok, asB_err, truth_ok, truth_err, set_name, set_tup, set_nil, set_cons, fend_next, fend_ret, fend_err, List.length_cons, List.length_nil, List.length_set, List.map_cons, List.map_nil, List.cons_append, List.nil_append, List.getElem?_cons_zero, List.getElem?_cons_succ, List.set_cons_zero, List.set_cons_succ, if_true, if_false, Bool.false_eq_true, Bool.not_true, Bool.not_false, reduceIte, and_self, Nat.reduceAdd, Nat.reduceLT, Nat.reduceLeDiff, Nat.reduceSub, Nat.reduceEqDiff, List.replicate_succ, List.replicate_zero, cap, l6c, h1', h2, alloc_ok, hi]
  simp only [List.append_assoc]
theorem l6_ok {n5 : Nat} (hl : D l) (hr : D r) (hn : S[n]? = some (.lst (dueL l r))) (hn5 : S[n5]? = some (.lst ((facs l r).map fV))) : ∃ (J : Store) (y6 y12 : Option Val), evS G LT WW (Q k) l6 [some sc, some (.obj 2), x2, x3, some (.obj n), some (.obj n5), x6, x7, x8, x9, some (chV (dl l)), some (chV (dl r)), x12] S = .next [some sc, some (.obj 2), x2, x3, some (.obj n), some (.obj n5), y6, x7, x8, x9, some (chV (dl l)), some (chV (dl r)), y12] (S ++ J) := by
  have hrun := for_run (q := Q k) (t := .name 6) (b := l6b) (src := .lst n5) (S := S) (e := [some sc, some (.obj 2), x2, x3, some (.obj n), some (.obj n5), x6, x7, x8, x9, some (chV (dl l)), some (chV (dl r)), x12]) ((facs l r).map fV)
    (fun rest e S' => ∃ (J : Store) (fs : List Frac) (y6 y12 : Option Val), S' = S ++ J ∧ rest = fs.map fV ∧ e = [some sc, some (.obj 2), x2, x3, some (.obj n), some (.obj n5), y6, x7, x8, x9, some (chV (dl l)), some (chV (dl r)), y12] ∧ ∀ f ∈ fs, f ∈ facs l r) (fun _ _ => False) (len_lst hn5) (fun rest e S' ⟨J, fs, y6, y12, a, _⟩ i => by rw [a]; exact at_lst (app_get hn5) i)
    (fun v rest e S' ⟨J, fs, y6, y12, a, b, c, d⟩ => by
      cases fs with
      | nil => exact absurd b (by simp)
      | cons f fs =>
        rw [List.map_cons] at b
        injection b with b1 b2
        have hf := facs_ok hl hr f (d f (List.mem_cons_self ..))
        subst a
        subst c
        have ha := l6a_ok (k := k) (S := S ++ J) (sc := sc) (x2 := x2) (x3 := x3) (x5 := some (.obj n5)) (x7 := x7) (x8 := x8) (x9 := x9) (x10 := some (chV (dl l))) (x11 := some (chV (dl r))) (x12 := y12) (app_get hn) hf hl hr
        obtain ⟨J2, hc⟩ := l6c_ok (k := k) (S := S ++ J) (sc := sc) (x2 := x2) (x3 := x3) (x4 := some (.obj n)) (x5 := some (.obj n5)) (x7 := x7) (x8 := x8) (x9 := x9) hf hl hr
        refine ⟨[some sc, some (.obj 2), x2, x3, some (.obj n), some (.obj n5), some (fV f), x7, x8, x9, some (chV (dl l)), some (chV (dl r)), y12], by rw [b1]; rfl, .inl ⟨[some sc, some (.obj 2), x2, x3, some (.obj n), some (.obj n5), some (fV f), x7, x8, x9, some (chV (dl l)), some (chV (dl r)), some (.bl (withinP (bothLR l r) f))], S ++ J ++ J2, ?_, J ++ J2, fs, some (fV f), some (.bl (withinP (bothLR l r) f)), by rw [List.append_assoc], b2, rfl, fun y hy => d y (List.mem_cons_of_mem _ hy)⟩⟩
        rw [l6b, b_cons, ha, fbind_next, b_cons, hc, fbind_next, b_nil])
    ⟨[], facs l r, x6, x12, by simp, rfl, rfl, fun _ h => h⟩
  rcases hrun with ⟨e', S', h1, J, fs, y6, y12, a, b, c, d⟩ | ⟨_, _, _, h⟩
  · subst a
    subst c
    refine ⟨J, y6, y12, ?_⟩
    have htg : tgOk (.lst n5) (.name 6) = true := rfl
    simp only [b_cons, b_nil, s_asg, s_par, s_sub, s_ret, s_expr, s_ife, s_whl, s_for, s_raise, s_pass, e_cst, e_glb0, e_glb1, e_glb2, e_glb3, e_var, e_tup, e_lst, e_dnew, e_bin, e_neg, e_not, e_and, e_or, e_cmp, e_chn, e_ife, e_idx, e_slc, e_rev, e_call, e_bi, e_isi, e_app, e_get2, e_lam, e_lc, l_nil, l_cons, o_none, o_some, i_seq, i_range, i_zip, bind_ok, bind_err, toF_ok, toF_err, fbind_next, fbind_ret, fbind_err, asB_ok, asI_ok, asB_err, truth_ok, truth_err, set_name, set_tup, set_nil, set_cons, fend_next, fend_ret, fend_err, List.length_cons, List.length_nil, List.length_set, List.map_cons, List.map_nil, List.cons_append, List.nil_append, List.getElem?_cons_zero, List.getElem?_cons_succ, List.set_cons_zero, List.set_cons_succ, if_true, if_false, Bool.false_eq_true, Bool.not_true, Bool.not_false, reduceIte, and_self, Nat.reduceAdd, Nat.reduceLT, Nat.reduceLeDiff, Nat.reduceSub, Nat.reduceEqDiff, List.replicate_succ, List.replicate_zero, cap, l6, src_lst hn5, htg, Bool.true_eq_false, h1]
  · exact h.elim
theorem l7_ok (hl : D l) (hr : D r) (hn : S[n]? = some (.lst (dueL l r))) : ∃ (J : Store), evS G LT WW (Q k) l7 [some sc, some (.obj 2), x2, x3, some (.obj n), x5, x6, x7, x8, x9, some (chV (dl l)), some (chV (dl r)), x12] S = .next [some sc, some (.obj 2), x2, x3, some (.obj n), x5, x6, x7, x8, x9, some (chV (dl l)), some (chV (dl r)), x12] (S ++ J) := by
  have h0 := due_0 hn
  cases ho : oddsP (dl l) (dl r) with
  | endl i =>
    rw [ho] at h0
    refine ⟨[], ?_⟩
    rw [List.append_nil]
    simp only [b_cons, b_nil, s_asg, s_par, s_sub, s_ret, s_expr, s_ife, s_whl, s_for, s_raise, s_pass, e_cst, e_glb0, e_glb1, e_glb2, e_glb3, e_var, e_tup, e_lst, e_dnew, e_bin, e_neg, e_not, e_and, e_or, e_cmp, e_chn, e_ife, e_idx, e_slc, e_rev, e_call, e_bi, e_isi, e_app, e_get2, e_lam, e_lc, l_nil, l_cons, o_none, o_some, i_seq, i_range, i_zip, bind_ok, bind_err, toF_ok, toF_err, fbind_next, fbind_ret, fbind_err, asB_ok, asI_ok, asB_err, truth_ok, truth_err, set_name, set_tup, set_nil, set_cons, fend_next, fend_ret, fend_err, List.length_cons, List.length_nil, List.length_set, List.map_cons, List.map_nil, List.cons_append, List.nil_append, List.getElem?_cons_zero, List.getElem?_cons_succ, List.set_cons_zero, List.set_cons_succ, if_true, if_false, Bool.false_eq_true, Bool.not_true, Bool.not_false, reduceIte, and_self, Nat.reduceAdd, Nat.reduceLT, Nat.reduceLeDiff, Nat.reduceSub, Nat.reduceEqDiff, List.replicate_succ, List.replicate_zero, cap, l7, h0, orV, ix0, eq_eo]
  | odds x i =>
    rw [ho] at h0
    obtain ⟨J, hJ⟩ := (lots_ok (k := k + 3) (g := true) (S := S) hl hr ho (.obj 2)).now
    refine ⟨J, ?_⟩
    simp only [b_cons, b_nil, s_asg, s_par, s_sub, s_ret, s_expr, s_ife, s_whl, s_for, s_raise, s_pass, e_cst, e_glb0, e_glb1, e_glb2, e_glb3, e_var, e_tup, e_lst, e_dnew, e_bin, e_neg, e_not, e_and, e_or, e_cmp, e_chn, e_ife, e_idx, e_slc, e_rev, e_call, e_bi, e_isi, e_app, e_get2, e_lam, e_lc, l_nil, l_cons, o_none, o_some, i_seq, i_range, i_zip, bind_ok, bind_err, toF_ok, toF_err, fbind_next, fbind_ret, fbind_err, asB_ok, asI_ok, asB_err, truth_ok, truth_err, set_name, set_tup, set_nil, set_cons, fend_next, fend_ret, fend_err, List.length_cons, List.length_nil, List.length_set, List.map_cons, List.map_nil, List.cons_append, List.nil_append, List.getElem?_cons_zero, List.getElem?_cons_succ, List.set_cons_zero, List.set_cons_succ, if_true, if_false, Bool.false_eq_true, Bool.not_true, Bool.not_false, reduceIte, and_self, Nat.reduceAdd, Nat.reduceLT, Nat.reduceLeDiff, Nat.reduceSub, Nat.reduceEqDiff, List.replicate_succ, List.replicate_zero, cap, l7, h0, orV, ix0, ix1, eq_oo, hJ]
end
end Law
end

section
set_option Elab.async false
set_option linter.all false
set_option autoImplicit false
set_option maxRecDepth 100000
namespace Law
open PySem Ev
section
variable {k : Nat} {g : Bool} {S : Store} {q : Ev.Ctx} {e : Ev.Env}
/-! what is no factor -/
def NoFac (S : Store) (v : Val) : Prop := ∀ (k : Nat) (g : Bool) (S' : Store), Keep S S' → CC (k + 5) g 4 [v] S' = .ok (.bl false) S'
theorem NoFac.keep {v : Val} {S' : Store} (h : NoFac S v) (hk : Keep S S') : NoFac S' v := fun k g S2 h2 => h k g S2 (hk.trans h2)
theorem nofac_of {v : Val} (h : ∀ (k : Nat) (g : Bool) (S' : Store), Keep S S' → CC (k + 4) g 2 [v] S' = .ok (.bl false) S') : NoFac S v := fun k g S' hk => by
  have h1 := h k g S' hk
  rw [C_at (k := k + 2) (np := 1) (nn := 1) (body := b_is_factor) rfl rfl]
  simp only [b_cons, b_nil, s_asg, s_par, s_sub, s_ret, s_expr, s_ife, s_whl, s_for, s_raise, s_pass, e_cst, e_glb0, e_glb1, e_glb2, e_glb3, e_var, e_tup, e_lst, e_dnew, e_bin, e_neg, e_not, e_and, e_or, e_cmp, e_chn, e_ife, e_idx, e_slc, e_rev, e_call, e_bi, e_isi, e_app, e_get2, e_lam, e_lc, l_nil, l_cons, o_none, o_some, i_seq, i_range, i_zip, bind_ok, bind_err, toF_ok, toF_err, fbind_next, fbind_ret, fbind_err, asB_ok, asI_ok, asB_err, truth_ok, truth_err, set_name, set_tup, set_nil, set_cons, fend_next, fend_ret, fend_err, List.length_cons, List.length_nil, List.length_set, List.map_cons, List.map_nil, List.cons_append, List.nil_append, List.getElem?_cons_zero, List.getElem?_cons_succ, List.set_cons_zero, List.set_cons_succ, if_true, if_false, Bool.false_eq_true, Bool.not_true, Bool.not_false, reduceIte, and_self, Nat.reduceAdd, Nat.reduceLT, Nat.reduceLeDiff, Nat.reduceSub, Nat.reduceEqDiff, List.replicate_succ, List.replicate_zero, cap, b_is_factor, h1]
theorem nofac_lt (x : Frac) (h : Fr x) (h2 : x.1 < x.2) : NoFac S (fV x) := fun k g S' hk => by
  have := is_factor_ok (k := k) (g := g) (S := S') x h
  rwa [decide_eq_false (show ¬ x.2 ≤ x.1 by omega)] at this
theorem nofac_gcd (x : Frac) (h1 : 0 < x.2) (h2 : x.2.natAbs < WW) (h : Nat.gcd x.1.natAbs x.2.natAbs ≠ 1) : NoFac S (fV x) := nofac_of fun k g S' hk => by
  have := is_fraction_gen (k := k) (g := g) (S := S') x h1 h2
  rwa [decide_eq_false h] at this
theorem nofac_non : NoFac S .non := nofac_of fun k g S' hk => by
  rw [C_at (k := k + 1) (np := 1) (nn := 1) (body := b_is_fraction) rfl rfl]
  simp only [b_cons, b_nil, s_asg, s_par, s_sub, s_ret, s_expr, s_ife, s_whl, s_for, s_raise, s_pass, e_cst, e_glb0, e_glb1, e_glb2, e_glb3, e_var, e_tup, e_lst, e_dnew, e_bin, e_neg, e_not, e_and, e_or, e_cmp, e_chn, e_ife, e_idx, e_slc, e_rev, e_call, e_bi, e_isi, e_app, e_get2, e_lam, e_lc, l_nil, l_cons, o_none, o_some, i_seq, i_range, i_zip, bind_ok, bind_err, toF_ok, toF_err, fbind_next, fbind_ret, fbind_err, asB_ok, asI_ok, asB_err, truth_ok, truth_err, set_name, set_tup, set_nil, set_cons, fend_next, fend_ret, fend_err, List.length_cons, List.length_nil, List.length_set, List.map_cons, List.map_nil, List.cons_append, List.nil_append, List.getElem?_cons_zero, List.getElem?_cons_succ, List.set_cons_zero, List.set_cons_succ, if_true, if_false, Bool.false_eq_true, Bool.not_true, Bool.not_false, reduceIte, and_self, Nat.reduceAdd, Nat.reduceLT, Nat.reduceLeDiff, Nat.reduceSub, Nat.reduceEqDiff, List.replicate_succ, List.replicate_zero, cap, b_is_fraction, isi_tn]
theorem nofac_int (i : Int) : NoFac S (.int i) := nofac_of fun k g S' hk => by
  rw [C_at (k := k + 1) (np := 1) (nn := 1) (body := b_is_fraction) rfl rfl]
  simp only [b_cons, b_nil, s_asg, s_par, s_sub, s_ret, s_expr, s_ife, s_whl, s_for, s_raise, s_pass, e_cst, e_glb0, e_glb1, e_glb2, e_glb3, e_var, e_tup, e_lst, e_dnew, e_bin, e_neg, e_not, e_and, e_or, e_cmp, e_chn, e_ife, e_idx, e_slc, e_rev, e_call, e_bi, e_isi, e_app, e_get2, e_lam, e_lc, l_nil, l_cons, o_none, o_some, i_seq, i_range, i_zip, bind_ok, bind_err, toF_ok, toF_err, fbind_next, fbind_ret, fbind_err, asB_ok, asI_ok, asB_err, truth_ok, truth_err, set_name, set_tup, set_nil, set_cons, fend_next, fend_ret, fend_err, List.length_cons, List.length_nil, List.length_set, List.map_cons, List.map_nil, List.cons_append, List.nil_append, List.getElem?_cons_zero, List.getElem?_cons_succ, List.set_cons_zero, List.set_cons_succ, if_true, if_false, Bool.false_eq_true, Bool.not_true, Bool.not_false, reduceIte, and_self, Nat.reduceAdd, Nat.reduceLT, Nat.reduceLeDiff, Nat.reduceSub, Nat.reduceEqDiff, List.replicate_succ, List.replicate_zero, cap, b_is_fraction, isi_it]
theorem nofac_str (x : Str) : NoFac S (.str x) := nofac_of fun k g S' hk => by
  rw [C_at (k := k + 1) (np := 1) (nn := 1) (body := b_is_fraction) rfl rfl]
  simp only [b_cons, b_nil, s_asg, s_par, s_sub, s_ret, s_expr, s_ife, s_whl, s_for, s_raise, s_pass, e_cst, e_glb0, e_glb1, e_glb2, e_glb3, e_var, e_tup, e_lst, e_dnew, e_bin, e_neg, e_not, e_and, e_or, e_cmp, e_chn, e_ife, e_idx, e_slc, e_rev, e_call, e_bi, e_isi, e_app, e_get2, e_lam, e_lc, l_nil, l_cons, o_none, o_some, i_seq, i_range, i_zip, bind_ok, bind_err, toF_ok, toF_err, fbind_next, fbind_ret, fbind_err, asB_ok, asI_ok, asB_err, truth_ok, truth_err, set_name, set_tup, set_nil, set_cons, fend_next, fend_ret, fend_err, List.length_cons, List.length_nil, List.length_set, List.map_cons, List.map_nil, List.cons_append, List.nil_append, List.getElem?_cons_zero, List.getElem?_cons_succ, List.set_cons_zero, List.set_cons_succ, if_true, if_false, Bool.false_eq_true, Bool.not_true, Bool.not_false, reduceIte, and_self, Nat.reduceAdd, Nat.reduceLT, Nat.reduceLeDiff, Nat.reduceSub, Nat.reduceEqDiff, List.replicate_succ, List.replicate_zero, cap, b_is_fraction, isi_ts]
theorem nofac_obj {o : Nat} {vs : List Val} (h2 : o ≠ 2) (h : S[o]? = some (.lst vs)) : NoFac S (.obj o) := nofac_of fun k g S' hk => by
  rw [C_at (k := k + 1) (np := 1) (nn := 1) (body := b_is_fraction) rfl rfl]
  simp only [b_cons, b_nil, s_asg, s_par, s_sub, s_ret, s_expr, s_ife, s_whl, s_for, s_raise, s_pass, e_cst, e_glb0, e_glb1, e_glb2, e_glb3, e_var, e_tup, e_lst, e_dnew, e_bin, e_neg, e_not, e_and, e_or, e_cmp, e_chn, e_ife, e_idx, e_slc, e_rev, e_call, e_bi, e_isi, e_app, e_get2, e_lam, e_lc, l_nil, l_cons, o_none, o_some, i_seq, i_range, i_zip, bind_ok, bind_err, toF_ok, toF_err, fbind_next, fbind_ret, fbind_err, asB_ok, asI_ok, asB_err, truth_ok, truth_err, set_name, set_tup, set_nil, set_cons, fend_next, fend_ret, fend_err, List.length_cons, List.length_nil, List.length_set, List.map_cons, List.map_nil, List.cons_append, List.nil_append, List.getElem?_cons_zero, List.getElem?_cons_succ, List.set_cons_zero, List.set_cons_succ, if_true, if_false, Bool.false_eq_true, Bool.not_true, Bool.not_false, reduceIte, and_self, Nat.reduceAdd, Nat.reduceLT, Nat.reduceLeDiff, Nat.reduceSub, Nat.reduceEqDiff, List.replicate_succ, List.replicate_zero, cap, b_is_fraction, isi_to (hk.get h2 h)]
theorem nofac_true : NoFac S (.tup [.bl true, .int 1]) := nofac_of fun k g S' hk => by
  rw [C_at (k := k + 1) (np := 1) (nn := 1) (body := b_is_fraction) rfl rfl]
  simp only [b_cons, b_nil, s_asg, s_par, s_sub, s_ret, s_expr, s_ife, s_whl, s_for, s_raise, s_pass, e_cst, e_glb0, e_glb1, e_glb2, e_glb3, e_var, e_tup, e_lst, e_dnew, e_bin, e_neg, e_not, e_and, e_or, e_cmp, e_chn, e_ife, e_idx, e_slc, e_rev, e_call, e_bi, e_isi, e_app, e_get2, e_lam, e_lc, l_nil, l_cons, o_none, o_some, i_seq, i_range, i_zip, bind_ok, bind_err, toF_ok, toF_err, fbind_next, fbind_ret, fbind_err, asB_ok, asI_ok, asB_err, truth_ok, truth_err, set_name, set_tup, set_nil, set_cons, fend_next, fend_ret, fend_err, List.length_cons, List.length_nil, List.length_set, List.map_cons, List.map_nil, List.cons_append, List.nil_append, List.getElem?_cons_zero, List.getElem?_cons_succ, List.set_cons_zero, List.set_cons_succ, if_true, if_false, Bool.false_eq_true, Bool.not_true, Bool.not_false, reduceIte, and_self, Nat.reduceAdd, Nat.reduceLT, Nat.reduceLeDiff, Nat.reduceSub, Nat.reduceEqDiff, List.replicate_succ, List.replicate_zero, cap, b_is_fraction, isi_tt, len2, ne_ii, beq_self_eq_true, ix0, is_integer_bl]
/-! what is raised -/
theorem check_no1' {v w : Val} (h1 : Ans (k + 8) g 11 [v] (.bl false) S) : ∃ J, CC (k + 9) g 12 [v, w] S = .err 1 (S ++ J) := by
  obtain ⟨J, hJ⟩ := h1.now
  refine ⟨J, ?_⟩
  rw [C_at (k := k + 6) (np := 2) (nn := 2) (body := b_check_chances) rfl rfl]
  simp only [b_cons, b_nil, s_asg, s_par, s_sub, s_ret, s_expr, s_ife, s_whl, s_for, s_raise, s_pass, e_cst, e_glb0, e_glb1, e_glb2, e_glb3, e_var, e_tup, e_lst, e_dnew, e_bin, e_neg, e_not, e_and, e_or, e_cmp, e_chn, e_ife, e_idx, e_slc, e_rev, e_call, e_bi, e_isi, e_app, e_get2, e_lam, e_lc, l_nil, l_cons, o_none, o_some, i_seq, i_range, i_zip, bind_ok, bind_err, toF_ok, toF_err, fbind_next, fbind_ret, fbind_err, asB_ok, asI_ok, asB_err, truth_ok, truth_err, set_name, set_tup, set_nil, set_cons, fend_next, fend_ret, fend_err, List.length_cons, List.length_nil, List.length_set, List.map_cons, List.map_nil, List.cons_append, List.nil_append, List.getElem?_cons_zero, List.getElem?_cons_succ, List.set_cons_zero, List.set_cons_succ, if_true, if_false, Bool.false_eq_true, Bool.not_true, Bool.not_false, reduceIte, and_self, Nat.reduceAdd, Nat.reduceLT, Nat.reduceLeDiff, Nat.reduceSub, Nat.reduceEqDiff, List.replicate_succ, List.replicate_zero, cap, b_check_chances, hJ]
theorem check_no2' {v w : Val} (h1 : Ans (k + 8) g 11 [v] (.bl true) S) (h2 : Ans (k + 8) g 11 [w] (.bl false) S) : ∃ J, CC (k + 9) g 12 [v, w] S = .err 1 (S ++ J) := by
  obtain ⟨J, hJ⟩ := h1.now
  obtain ⟨J2, hJ2⟩ := (h2.app J).now
  refine ⟨J ++ J2, ?_⟩
  rw [C_at (k := k + 6) (np := 2) (nn := 2) (body := b_check_chances) rfl rfl]
  simp only [b_cons, b_nil, s_asg, s_par, s_sub, s_ret, s_expr, s_ife, s_whl, s_for, s_raise, s_pass, e_cst, e_glb0, e_glb1, e_glb2, e_glb3, e_var, e_tup, e_lst, e_dnew, e_bin, e_neg, e_not, e_and, e_or, e_cmp, e_chn, e_ife, e_idx, e_slc, e_rev, e_call, e_bi, e_isi, e_app, e_get2, e_lam, e_lc, l_nil, l_cons, o_none, o_some, i_seq, i_range, i_zip, bind_ok, bind_err, toF_ok, toF_err, fbind_next, fbind_ret, fbind_err, asB_ok, asI_ok, asB_err, truth_ok, truth_err, set_name, set_tup, set_nil, set_cons, fend_next, fend_ret, fend_err, List.length_cons, List.length_nil, List.length_set, List.map_cons, List.map_nil, List.cons_append, List.nil_append, List.getElem?_cons_zero, List.getElem?_cons_succ, List.set_cons_zero, List.set_cons_succ, if_true, if_false, Bool.false_eq_true, Bool.not_true, Bool.not_false, reduceIte, and_self, Nat.reduceAdd, Nat.reduceLT, Nat.reduceLeDiff, Nat.reduceSub, Nat.reduceEqDiff, List.replicate_succ, List.replicate_zero, cap, b_check_chances, hJ, hJ2]
  rw [List.append_assoc]
theorem odds_err {v w : Val} {J : Store} (h : CC (k + 9) g 12 [v, w] S = .err 1 (S ++ J)) : CC (k + 10) g 14 [v, w] S = .err 1 (S ++ J) := by
  rw [C_at (k := k + 7) (np := 2) (nn := 2) (body := b_odds) rfl rfl]
  simp only [b_cons, b_nil, s_asg, s_par, s_sub, s_ret, s_expr, s_ife, s_whl, s_for, s_raise, s_pass, e_cst, e_glb0, e_glb1, e_glb2, e_glb3, e_var, e_tup, e_lst, e_dnew, e_bin, e_neg, e_not, e_and, e_or, e_cmp, e_chn, e_ife, e_idx, e_slc, e_rev, e_call, e_bi, e_isi, e_app, e_get2, e_lam, e_lc, l_nil, l_cons, o_none, o_some, i_seq, i_range, i_zip, bind_ok, bind_err, toF_ok, toF_err, fbind_next, fbind_ret, fbind_err, asB_ok, asI_ok, asB_err, truth_ok, truth_err, set_name, set_tup, set_nil, set_cons, fend_next, fend_ret, fend_err, List.length_cons, List.length_nil, List.length_set, List.map_cons, List.map_nil, List.cons_append, List.nil_append, List.getElem?_cons_zero, List.getElem?_cons_succ, List.set_cons_zero, List.set_cons_succ, if_true, if_false, Bool.false_eq_true, Bool.not_true, Bool.not_false, reduceIte, and_self, Nat.reduceAdd, Nat.reduceLT, Nat.reduceLeDiff, Nat.reduceSub, Nat.reduceEqDiff, List.replicate_succ, List.replicate_zero, cap, b_odds, h]
theorem both_err {v w : Val} {J : Store} (h : CC (k + 9) g 12 [v, w] S = .err 1 (S ++ J)) : CC (k + 10) g 16 [v, w] S = .err 1 (S ++ J) := by
  rw [C_at (k := k + 7) (np := 2) (nn := 2) (body := b_odds_both) rfl rfl]
  simp only [b_cons, b_nil, s_asg, s_par, s_sub, s_ret, s_expr, s_ife, s_whl, s_for, s_raise, s_pass, e_cst, e_glb0, e_glb1, e_glb2, e_glb3, e_var, e_tup, e_lst, e_dnew, e_bin, e_neg, e_not, e_and, e_or, e_cmp, e_chn, e_ife, e_idx, e_slc, e_rev, e_call, e_bi, e_isi, e_app, e_get2, e_lam, e_lc, l_nil, l_cons, o_none, o_some, i_seq, i_range, i_zip, bind_ok, bind_err, toF_ok, toF_err, fbind_next, fbind_ret, fbind_err, asB_ok, asI_ok, asB_err, truth_ok, truth_err, set_name, set_tup, set_nil, set_cons, fend_next, fend_ret, fend_err, List.length_cons, List.length_nil, List.length_set, List.map_cons, List.map_nil, List.cons_append, List.nil_append, List.getElem?_cons_zero, List.getElem?_cons_succ, List.set_cons_zero, List.set_cons_succ, if_true, if_false, Bool.false_eq_true, Bool.not_true, Bool.not_false, reduceIte, and_self, Nat.reduceAdd, Nat.reduceLT, Nat.reduceLeDiff, Nat.reduceSub, Nat.reduceEqDiff, List.replicate_succ, List.replicate_zero, cap, b_odds_both, h]
theorem within_err {v w f : Val} {J : Store} (h : CC (k + 9) g 12 [v, w] S = .err 1 (S ++ J)) : CC (k + 10) g 18 [v, w, f] S = .err 1 (S ++ J) := by
  rw [C_at (k := k + 7) (np := 3) (nn := 4) (body := b_is_within_odds) rfl rfl]
  simp only [b_cons, b_nil, s_asg, s_par, s_sub, s_ret, s_expr, s_ife, s_whl, s_for, s_raise, s_pass, e_cst, e_glb0, e_glb1, e_glb2, e_glb3, e_var, e_tup, e_lst, e_dnew, e_bin, e_neg, e_not, e_and, e_or, e_cmp, e_chn, e_ife, e_idx, e_slc, e_rev, e_call, e_bi, e_isi, e_app, e_get2, e_lam, e_lc, l_nil, l_cons, o_none, o_some, i_seq, i_range, i_zip, bind_ok, bind_err, toF_ok, toF_err, fbind_next, fbind_ret, fbind_err, asB_ok, asI_ok, asB_err, truth_ok, truth_err, set_name, set_tup, set_nil, set_cons, fend_next, fend_ret, fend_err, List.length_cons, List.length_nil, List.length_set, List.map_cons, List.map_nil, List.cons_append, List.nil_append, List.getElem?_cons_zero, List.getElem?_cons_succ, List.set_cons_zero, List.set_cons_succ, if_true, if_false, Bool.false_eq_true, Bool.not_true, Bool.not_false, reduceIte, and_self, Nat.reduceAdd, Nat.reduceLT, Nat.reduceLeDiff, Nat.reduceSub, Nat.reduceEqDiff, List.replicate_succ, List.replicate_zero, cap, b_is_within_odds, h]
theorem within_err3 {l r : List (Nat × Int)} {f : Val} (hl : D l) (hr : D r) (hf : NoFac S f) : ∃ J, CC (k + 10) g 18 [chV (dl l), chV (dl r), f] S = .err 3 (S ++ J) := by
  obtain ⟨J, hJ⟩ := (check_ok (k := k) (g := g) (S := S) (fun _ => hl.good) (fun _ => hr.good)).now
  have h1 := hf (k + 4) g (S ++ J) (Keep.app S J)
  refine ⟨J, ?_⟩
  rw [C_at (k := k + 7) (np := 3) (nn := 4) (body := b_is_within_odds) rfl rfl]
  simp only [b_cons, b_nil, s_asg, s_par, s_sub, s_ret, s_expr, s_ife, s_whl, s_for, s_raise, s_pass, e_cst, e_glb0, e_glb1, e_glb2, e_glb3, e_var, e_tup, e_lst, e_dnew, e_bin, e_neg, e_not, e_and, e_or, e_cmp, e_chn, e_ife, e_idx, e_slc, e_rev, e_call, e_bi, e_isi, e_app, e_get2, e_lam, e_lc, l_nil, l_cons, o_none, o_some, i_seq, i_range, i_zip, bind_ok, bind_err, toF_ok, toF_err, fbind_next, fbind_ret, fbind_err, asB_ok, asI_ok, asB_err, truth_ok, truth_err, set_name, set_tup, set_nil, set_cons, fend_next, fend_ret, fend_err, List.length_cons, List.length_nil, List.length_set, List.map_cons, List.map_nil, List.cons_append, List.nil_append, List.getElem?_cons_zero, List.getElem?_cons_succ, List.set_cons_zero, List.set_cons_succ, if_true, if_false, Bool.false_eq_true, Bool.not_true, Bool.not_false, reduceIte, and_self, Nat.reduceAdd, Nat.reduceLT, Nat.reduceLeDiff, Nat.reduceSub, Nat.reduceEqDiff, List.replicate_succ, List.replicate_zero, cap, b_is_within_odds, hJ, h1]
/-! the rest of the lap -/
section
variable {m n : Nat} {sc : Val} {x2 x3 x4 x5 x6 x7 x8 x9 x10 x11 x12 : Option Val} {l r : List (Nat × Int)}
theorem l8_ok (hS : Hd m S) (hm : m < 10 ^ 8) (hl : D l) : ∃ (S' : Store) (w : Val), evS G LT WW (Q k) l8 [some sc, some (.obj 2), x2, x3, x4, x5, x6, x7, x8, x9, some (chV (dl l)), x11, x12] S = .next [some sc, some (.obj 2), x2, x3, x4, x5, x6, some w, x8, x9, some (chV (dl l)), x11, x12] S' ∧ Bad S' w ∧ Keep S S' ∧ Hd (m + 1) S' := by
  obtain ⟨S', w, h1, h2, h3, h4⟩ := bent_ok (k := k + 9) (g := true) hS hm hl
  refine ⟨S', w, ?_, h2, h3, h4⟩
  simp only [b_cons, b_nil, s_asg, s_par, s_sub, s_ret, s_expr, s_ife, s_whl, s_for, s_raise, s_pass, e_cst, e_glb0, e_glb1, e_glb2, e_glb3, e_var, e_tup, e_lst, e_dnew, e_bin, e_neg, e_not, e_and, e_or, e_cmp, e_chn, e_ife, e_idx, e_slc, e_rev, e_call, e_bi, e_isi, e_app, e_get2, e_lam, e_lc, l_nil, l_cons, o_none, o_some, i_seq, i_range, i_zip, bind_ok, bind_err, toF_ok, toF_err, fbind_next, fbind_ret, fbind_err, asB_ok, asI_ok, asB_err, truth_ok, truth_err, set_name, set_tup, set_nil, set_cons, fend_next, fend_ret, fend_err, List.length_cons, List.length_nil, List.length_set, List.map_cons, List.map_nil, List.cons_append, List.nil_append, List.getElem?_cons_zero, List.getElem?_cons_succ, List.set_cons_zero, List.set_cons_succ, if_true, if_false, Bool.false_eq_true, Bool.not_true, Bool.not_false, reduceIte, and_self, Nat.reduceAdd, Nat.reduceLT, Nat.reduceLeDiff, Nat.reduceSub, Nat.reduceEqDiff, List.replicate_succ, List.replicate_zero, cap, l8, h1]
def oddL (o : Nat) : List Val := [.non, .tup [.int 1, .int 2], .tup [.int 2, .int 4], .int 2, .tup [.int 0, .int 1], .tup [.bl true, .int 1], .obj o, .str "1", .tup [.int 4, .int 2]]
theorem oddL_no {o : Nat} {vs : List Val} (h2 : o ≠ 2) (h : S[o]? = some (.lst vs)) : ∀ v ∈ oddL o, NoFac S v := by
  intro v hv
  unfold oddL at hv
  have z2 : (2 : Int).natAbs < WW := of_decide_eq_true rfl
  have z4 : (4 : Int).natAbs < WW := of_decide_eq_true rfl
  have z1 : (1 : Int).natAbs < WW := of_decide_eq_true rfl
  simp only [List.mem_cons, List.not_mem_nil, or_false] at hv
  rcases hv with rfl | rfl | rfl | rfl | rfl | rfl | rfl | rfl | rfl
  · exact nofac_non
  · exact nofac_lt (1, 2) ⟨by decide, z2, by decide⟩ (by decide)
  · exact nofac_gcd (2, 4) (by decide) z4 (by decide)
  · exact nofac_int 2
  · exact nofac_lt (0, 1) ⟨by decide, z1, by decide⟩ (by decide)
  · exact nofac_true
  · exact nofac_obj h2 h
  · exact nofac_str _
  · exact nofac_gcd (4, 2) (by decide) z2 (by decide)
theorem l9_ok (hS : Hd m S) (hm : m < 10 ^ 8) : ∃ (S' : Store) (w : Val), evS G LT WW (Q k) l9 [some sc, some (.obj 2), x2, x3, x4, x5, x6, x7, x8, x9, x10, x11, x12] S = .next [some sc, some (.obj 2), x2, x3, x4, x5, x6, x7, some w, x9, x10, x11, x12] S' ∧ NoFac S' w ∧ Keep S S' ∧ Hd (m + 1) S' := by
  have hlen := hS.len
  obtain ⟨S', w, h1, h2, h3, h4, h5⟩ := some_ok (k := k + 10) (g := true) (n := (S ++ [Cell.lst [.int 2, .int 1]]).length) (vs := oddL S.length) ((hS.app [.lst [.int 2, .int 1]]).app [.lst (oddL S.length)]) hm app_last (by rw [List.length_append]; omega) (show 0 < 9 by decide) (show 9 ≤ 1000 by decide)
  have ho : (S ++ [Cell.lst [.int 2, .int 1]] ++ [.lst (oddL S.length)])[S.length]? = some (.lst [.int 2, .int 1]) := app_get app_last
  have hno := oddL_no (by omega) ho w h2
  refine ⟨S', w, ?_, hno.keep h3, ((Keep.app _ _).trans (Keep.app _ _)).trans h3, h4⟩
  unfold oddL at h1
  simp only [b_cons, b_nil, s_asg, s_par, s_sub, s_ret, s_expr, s_ife, s_whl, s_for, s_raise, s_pass, e_cst, e_glb0, e_glb1, e_glb2, e_glb3, e_var, e_tup, e_lst, e_dnew, e_bin, e_neg, e_not, e_and, e_or, e_cmp, e_chn, e_ife, e_idx, e_slc, e_rev, e_call, e_bi, e_isi, e_app, e_get2, e_lam, e_lc, l_nil, l_cons, o_none, o_some, i_seq, i_range, i_zip, bind_ok, bind_err, toF_ok, toF_err, fbind_next, fbind_ret, fbind_err, asB_ok, asI_ok, asB_err, truth_ok, truth_err, set_name, set_tup, set_nil, set_cons, fend_next, fend_ret, fend_err, List.length_cons, List.length_nil, List.length_set, List.map_cons, List.map_nil, List.cons_append, List.nil_append, List.getElem?_cons_zero, List.getElem?_cons_succ, List.set_cons_zero, List.set_cons_succ, if_true, if_false, Bool.false_eq_true, Bool.not_true, Bool.not_false, reduceIte, and_self, Nat.reduceAdd, Nat.reduceLT, Nat.reduceLeDiff, Nat.reduceSub, Nat.reduceEqDiff, List.replicate_succ, List.replicate_zero, cap, l9, alloc_ok, h1]
theorem lam_Q : Ev.Ctx.lam (Q k) = ⟨CC (k + 12) false, fun _ _ _ => .stuck, false⟩ := rfl
theorem lt1_1 : lt1 (.err 1 S) = .ok (.str "chances") S := rfl
theorem lt1_3 : lt1 (.err 3 S) = .ok (.str "factor") S := rfl
theorem app_ok {vs : List Val} {v : Val} (hn : S[n]? = some (.lst vs)) (h : vs.length ≤ 100) : appop (.obj n) v S = .ok .non (S.set n (.lst (vs ++ [v]))) := by
  show (match S[n]? with | some (.lst vs) => if vs.length < cap then R.ok Val.non (S.set n (.lst (vs ++ [v]))) else .stuck | _ => .stuck) = _
  rw [hn]
  show (if vs.length < cap then R.ok Val.non (S.set n (.lst (vs ++ [v]))) else .stuck) = _
  rw [if_pos (show vs.length < cap by unfold cap; omega)]
theorem isLst_ok {vs : List Val} (hn : S[n]? = some (.lst vs)) : isLst S (.obj n) = true := by
  show (match S[n]? with | some (.lst _) => true | _ => false) = _
  rw [hn]
/-- the words so far -/
structure Wd (S0 : Store) (n m : Nat) (vs : List Val) (S : Store) : Prop where
  keep : Keep S0 S
  at' : S[n]? = some (.lst vs)
  new : S0.length ≤ n
  hd : Hd m S
theorem Wd.put {S0 J : Store} {vs : List Val} (h : Wd S0 n m vs S) (h3 : 2 < S0.length) (v : Val) : Wd S0 n m (vs ++ [v]) ((S ++ J).set n (.lst (vs ++ [v]))) where
  keep := (h.keep.trans (Keep.app _ _)).setAt h.new
  at' := by
    have : n < (S ++ J).length := by
      rw [List.length_append]
      have := (List.getElem?_eq_some_iff.mp h.at').1
      omega
    exact List.getElem?_set_self this
  new := h.new
  hd := (h.hd.app J).setAt (Nat.lt_of_lt_of_le h3 h.new)
theorem app_step {b : IE} {x : Val} {J : Store} {vs : List Val} (hn : S[n]? = some (.lst vs)) (hv : vs.length ≤ 100) (h9 : e[9]? = some (some (.obj n))) (he : lt1 (evE G LT b (Q k).lam e S) = .ok x (S ++ J)) : evS G LT WW (Q k) (.expr (.app (.var 9) (.lam 0 b))) e S = .next e ((S ++ J).set n (.lst (vs ++ [x]))) := by
  rw [s_expr, e_app, e_var, h9]
  simp only [bind_ok, isLst_ok hn, if_true, e_lam, he, app_ok (app_get hn) hv, toF_ok]
theorem l10_ok {w : Val} (hw : Bad S w) (hS : Hd m S) : ∃ (J : Store) (n : Nat), evS G LT WW (Q k) l10 [some sc, some (.obj 2), x2, x3, x4, x5, x6, some w, x8, x9, x10, some (chV (dl r)), x12] S = .next [some sc, some (.obj 2), x2, x3, x4, x5, x6, some w, x8, some (.obj n), x10, some (chV (dl r)), x12] (S ++ J) ∧ Wd S n m [.str "chances"] (S ++ J) := by
  obtain ⟨J, h⟩ := check_no1' (k := k + 2) (g := false) (w := chV (dl r)) (hw (k + 2) false S (Keep.refl S))
  have h2 := odds_err h
  refine ⟨J ++ [.lst [.str "chances"]], (S ++ J).length, ?_, ⟨Keep.app _ _, by rw [← List.append_assoc]; exact app_last, by rw [List.length_append]; omega, hS.app _⟩⟩
  simp only [b_cons, b_nil, s_asg, s_par, s_sub, s_ret, s_expr, s_ife, s_whl, s_for, s_raise, s_pass, e_cst, e_glb0, e_glb1, e_glb2, e_glb3, e_var, e_tup, e_lst, e_dnew, e_bin, e_neg, e_not, e_and, e_or, e_cmp, e_chn, e_ife, e_idx, e_slc, e_rev, e_call, e_bi, e_isi, e_app, e_get2, e_lam, e_lc, l_nil, l_cons, o_none, o_some, i_seq, i_range, i_zip, bind_ok, bind_err, toF_ok, toF_err, fbind_next, fbind_ret, fbind_err, asB_ok, asI_ok, asB_err, truth_ok, truth_err, set_name, set_tup, set_nil, set_cons, fend_next, fend_ret, fend_err, List.length_cons, List.length_nil, List.length_set, List.map_cons, List.map_nil, List.cons_append, List.nil_append, List.getElem?_cons_zero, List.getElem?_cons_succ, List.set_cons_zero, List.set_cons_succ, if_true, if_false, Bool.false_eq_true, Bool.not_true, Bool.not_false, reduceIte, and_self, Nat.reduceAdd, Nat.reduceLT, Nat.reduceLeDiff, Nat.reduceSub, Nat.reduceEqDiff, List.replicate_succ, List.replicate_zero, cap, l10, lam_Q, h2, lt1_1, alloc_ok]
  rw [List.append_assoc]
theorem l11_ok {S0 : Store} {w : Val} (hl : D l) (hw : Bad S0 w) (h3 : 2 < S0.length) (hW : Wd S0 n m [.str "chances"] S) : ∃ S', evS G LT WW (Q k) l11 [some sc, some (.obj 2), x2, x3, x4, x5, x6, some w, x8, some (.obj n), some (chV (dl l)), x11, x12] S = .next [some sc, some (.obj 2), x2, x3, x4, x5, x6, some w, x8, some (.obj n), some (chV (dl l)), x11, x12] S' ∧ Wd S0 n m [.str "chances", .str "chances"] S' := by
  obtain ⟨J, h⟩ := check_no2' (k := k + 2) (g := false) (S := S) hl.good (hw (k + 2) false S hW.keep)
  have h2 := odds_err h
  refine ⟨_, app_step (J := J) (x := .str "chances") hW.at' (show 1 ≤ 100 by decide) rfl ?_, hW.put h3 _⟩
  simp only [b_cons, b_nil, s_asg, s_par, s_sub, s_ret, s_expr, s_ife, s_whl, s_for, s_raise, s_pass, e_cst, e_glb0, e_glb1, e_glb2, e_glb3, e_var, e_tup, e_lst, e_dnew, e_bin, e_neg, e_not, e_and, e_or, e_cmp, e_chn, e_ife, e_idx, e_slc, e_rev, e_call, e_bi, e_isi, e_app, e_get2, e_lam, e_lc, l_nil, l_cons, o_none, o_some, i_seq, i_range, i_zip, bind_ok, bind_err, toF_ok, toF_err, fbind_next, fbind_ret, fbind_err, asB_ok, asI_ok, asB_err, truth_ok, truth_err, set_name, set_tup, set_nil, set_cons, fend_next, fend_ret, fend_err, List.length_cons, List.length_nil, List.length_set, List.map_cons, List.map_nil, List.cons_append, List.nil_append, List.getElem?_cons_zero, List.getElem?_cons_succ, List.set_cons_zero, List.set_cons_succ, if_true, if_false, Bool.false_eq_true, Bool.not_true, Bool.not_false, reduceIte, and_self, Nat.reduceAdd, Nat.reduceLT, Nat.reduceLeDiff, Nat.reduceSub, Nat.reduceEqDiff, List.replicate_succ, List.replicate_zero, cap, lam_Q, h2, lt1_1]
theorem l12_ok {S0 : Store} {w : Val} (hw : Bad S0 w) (h3 : 2 < S0.length) (hW : Wd S0 n m [.str "chances", .str "chances"] S) : ∃ S', evS G LT WW (Q k) l12 [some sc, some (.obj 2), x2, x3, x4, x5, x6, some w, x8, some (.obj n), x10, x11, x12] S = .next [some sc, some (.obj 2), x2, x3, x4, x5, x6, some w, x8, some (.obj n), x10, x11, x12] S' ∧ Wd S0 n m [.str "chances", .str "chances", .str "chances"] S' := by
  obtain ⟨J, h⟩ := check_no1' (k := k + 2) (g := false) (S := S) (w := .non) (hw (k + 2) false S hW.keep)
  have h2 := both_err h
  refine ⟨_, app_step (J := J) (x := .str "chances") hW.at' (show 2 ≤ 100 by decide) rfl ?_, hW.put h3 _⟩
  simp only [b_cons, b_nil, s_asg, s_par, s_sub, s_ret, s_expr, s_ife, s_whl, s_for, s_raise, s_pass, e_cst, e_glb0, e_glb1, e_glb2, e_glb3, e_var, e_tup, e_lst, e_dnew, e_bin, e_neg, e_not, e_and, e_or, e_cmp, e_chn, e_ife, e_idx, e_slc, e_rev, e_call, e_bi, e_isi, e_app, e_get2, e_lam, e_lc, l_nil, l_cons, o_none, o_some, i_seq, i_range, i_zip, bind_ok, bind_err, toF_ok, toF_err, fbind_next, fbind_ret, fbind_err, asB_ok, asI_ok, asB_err, truth_ok, truth_err, set_name, set_tup, set_nil, set_cons, fend_next, fend_ret, fend_err, List.length_cons, List.length_nil, List.length_set, List.map_cons, List.map_nil, List.cons_append, List.nil_append, List.getElem?_cons_zero, List.getElem?_cons_succ, List.set_cons_zero, List.set_cons_succ, if_true, if_false, Bool.false_eq_true, Bool.not_true, Bool.not_false, reduceIte, and_self, Nat.reduceAdd, Nat.reduceLT, Nat.reduceLeDiff, Nat.reduceSub, Nat.reduceEqDiff, List.replicate_succ, List.replicate_zero, cap, lam_Q, h2, lt1_1]
theorem l13_ok {S0 : Store} {w f : Val} (hl : D l) (hw : Bad S0 w) (h3 : 2 < S0.length) (hW : Wd S0 n m [.str "chances", .str "chances", .str "chances"] S) : ∃ S', evS G LT WW (Q k) l13 [some sc, some (.obj 2), x2, x3, x4, x5, x6, some w, some f, some (.obj n), some (chV (dl l)), x11, x12] S = .next [some sc, some (.obj 2), x2, x3, x4, x5, x6, some w, some f, some (.obj n), some (chV (dl l)), x11, x12] S' ∧ Wd S0 n m [.str "chances", .str "chances", .str "chances", .str "chances"] S' := by
  obtain ⟨J, h⟩ := check_no2' (k := k + 2) (g := false) (S := S) hl.good (hw (k + 2) false S hW.keep)
  have h2 := within_err (f := f) h
  refine ⟨_, app_step (J := J) (x := .str "chances") hW.at' (show 3 ≤ 100 by decide) rfl ?_, hW.put h3 _⟩
  simp only [b_cons, b_nil, s_asg, s_par, s_sub, s_ret, s_expr, s_ife, s_whl, s_for, s_raise, s_pass, e_cst, e_glb0, e_glb1, e_glb2, e_glb3, e_var, e_tup, e_lst, e_dnew, e_bin, e_neg, e_not, e_and, e_or, e_cmp, e_chn, e_ife, e_idx, e_slc, e_rev, e_call, e_bi, e_isi, e_app, e_get2, e_lam, e_lc, l_nil, l_cons, o_none, o_some, i_seq, i_range, i_zip, bind_ok, bind_err, toF_ok, toF_err, fbind_next, fbind_ret, fbind_err, asB_ok, asI_ok, asB_err, truth_ok, truth_err, set_name, set_tup, set_nil, set_cons, fend_next, fend_ret, fend_err, List.length_cons, List.length_nil, List.length_set, List.map_cons, List.map_nil, List.cons_append, List.nil_append, List.getElem?_cons_zero, List.getElem?_cons_succ, List.set_cons_zero, List.set_cons_succ, if_true, if_false, Bool.false_eq_true, Bool.not_true, Bool.not_false, reduceIte, and_self, Nat.reduceAdd, Nat.reduceLT, Nat.reduceLeDiff, Nat.reduceSub, Nat.reduceEqDiff, List.replicate_succ, List.replicate_zero, cap, lam_Q, h2, lt1_1]
theorem l14_ok {S0 : Store} {f : Val} (hl : D l) (hr : D r) (hf : NoFac S0 f) (h3 : 2 < S0.length) (hW : Wd S0 n m [.str "chances", .str "chances", .str "chances", .str "chances"] S) : ∃ S', evS G LT WW (Q k) l14 [some sc, some (.obj 2), x2, x3, x4, x5, x6, x7, some f, some (.obj n), some (chV (dl l)), some (chV (dl r)), x12] S = .next [some sc, some (.obj 2), x2, x3, x4, x5, x6, x7, some f, some (.obj n), some (chV (dl l)), some (chV (dl r)), x12] S' ∧ Wd S0 n m [.str "chances", .str "chances", .str "chances", .str "chances", .str "factor"] S' := by
  obtain ⟨J, h2⟩ := within_err3 (k := k + 2) (g := false) (S := S) hl hr (hf.keep hW.keep)
  refine ⟨_, app_step (J := J) (x := .str "factor") hW.at' (show 4 ≤ 100 by decide) rfl ?_, hW.put h3 _⟩
  simp only [b_cons, b_nil, s_asg, s_par, s_sub, s_ret, s_expr, s_ife, s_whl, s_for, s_raise, s_pass, e_cst, e_glb0, e_glb1, e_glb2, e_glb3, e_var, e_tup, e_lst, e_dnew, e_bin, e_neg, e_not, e_and, e_or, e_cmp, e_chn, e_ife, e_idx, e_slc, e_rev, e_call, e_bi, e_isi, e_app, e_get2, e_lam, e_lc, l_nil, l_cons, o_none, o_some, i_seq, i_range, i_zip, bind_ok, bind_err, toF_ok, toF_err, fbind_next, fbind_ret, fbind_err, asB_ok, asI_ok, asB_err, truth_ok, truth_err, set_name, set_tup, set_nil, set_cons, fend_next, fend_ret, fend_err, List.length_cons, List.length_nil, List.length_set, List.map_cons, List.map_nil, List.cons_append, List.nil_append, List.getElem?_cons_zero, List.getElem?_cons_succ, List.set_cons_zero, List.set_cons_succ, if_true, if_false, Bool.false_eq_true, Bool.not_true, Bool.not_false, reduceIte, and_self, Nat.reduceAdd, Nat.reduceLT, Nat.reduceLeDiff, Nat.reduceSub, Nat.reduceEqDiff, List.replicate_succ, List.replicate_zero, cap, lam_Q, h2, lt1_3]
end
end
end Law
end

section
set_option Elab.async false
set_option linter.all false
set_option autoImplicit false
set_option maxRecDepth 100000
namespace Law
open PySem Ev
section
variable {k : Nat} {g : Bool} {S : Store} {q : Ev.Ctx} {e : Ev.Env}
theorem mul_4 {m : Nat} {v : Val} (h : S[m]? = some (.lst [v])) : binop .mul (.obj m) (.int 4) S = .ok (.obj S.length) (S ++ [.lst [v, v, v, v]]) := by
  show (match S[m]? with
    | some (.lst xs) => if 0 ≤ (4 : Int) ∧ (4 : Int) ≤ 1000 ∧ xs.length ≤ 1000 then alloc (.lst (List.replicate (4 : Int).toNat xs).flatten) S else .stuck
    | _ => .stuck) = _
  rw [h]
  show (if 0 ≤ (4 : Int) ∧ (4 : Int) ≤ 1000 ∧ [v].length ≤ 1000 then alloc (.lst (List.replicate (4 : Int).toNat [v]).flatten) S else .stuck) = _
  rw [if_pos ⟨by decide, by decide, by show 1 ≤ 1000; decide⟩]
  rfl
def wordsL : List Val := [.str "chances", .str "chances", .str "chances", .str "chances", .str "factor"]
theorem so3 : PyData.strOk "chances" = true := by decide +kernel
theorem so4 : PyData.strOk "factor" = true := by decide +kernel
theorem words_toD (d : Nat) : wordsL.mapM (toD S d) = some [.str "chances", .str "chances", .str "chances", .str "chances", .str "factor"] := by
  unfold wordsL
  rw [List.mapM_cons, List.mapM_cons, List.mapM_cons, List.mapM_cons, List.mapM_cons, toD_str d so3, toD_str d so4]
  rfl
theorem ne_words {a b : Nat} (ha : S[a]? = some (.lst wordsL)) (hb : S[b]? = some (.lst wordsL)) : cmpop .ne (.obj a) (.obj b) S = .ok (.bl false) S := by
  have e : eqD S (.obj a) (.obj b) = some true := by
    unfold eqD
    rw [show toD S deepMost (.obj a) = _ from toD_obj 11 ha, show toD S deepMost (.obj b) = _ from toD_obj 11 hb, words_toD]
    simp [PyData.eqv, PyData.eqvAll]
  show (match (eqD S (.obj a) (.obj b)).map (!·) with | some c => R.ok (Val.bl c) S | none => .stuck) = _
  rw [e]
  rfl
theorem isnot_ff : cmpop .isnot (.bl false) (.bl false) S = .ok (.bl false) S := rfl
theorem isnot_tt : cmpop .isnot (.bl true) (.bl true) S = .ok (.bl false) S := rfl
section
variable {m n : Nat} {sc : Val} {x2 x3 x4 x5 x6 x7 x8 x9 x10 x11 x12 : Option Val} {l r : List (Nat × Int)}
theorem l15_ok {S0 : Store} {w : Val} (hl : D l) (hw : Bad S0 w) (hW : Wd S0 n m wordsL S) : ∃ J, evS G LT WW (Q k) l15 [some sc, some (.obj 2), x2, x3, x4, x5, x6, some w, x8, some (.obj n), some (chV (dl l)), x11, x12] S = .next [some sc, some (.obj 2), x2, x3, x4, x5, x6, some w, x8, some (.obj n), some (chV (dl l)), x11, x12] (S ++ J) := by
  have a1 : (S ++ [Cell.lst [.str "chances"]])[S.length]? = _ := app_last
  have a2 := mul_4 a1
  have a3 : (S ++ [Cell.lst [.str "chances"]] ++ [Cell.lst [.str "chances", .str "chances", .str "chances", .str "chances"]] ++ [Cell.lst [.str "factor"]])[(S ++ [Cell.lst [.str "chances"]]).length]? = some (.lst [.str "chances", .str "chances", .str "chances", .str "chances"]) := app_get app_last
  have a4 := add_oo (S := S ++ [Cell.lst [.str "chances"]] ++ [Cell.lst [.str "chances", .str "chances", .str "chances", .str "chances"]] ++ [Cell.lst [.str "factor"]]) a3 app_last (by show 5 ≤ cap; decide)
  have a5 : S ++ [Cell.lst [.str "chances"]] ++ [Cell.lst [.str "chances", .str "chances", .str "chances", .str "chances"]] ++ [Cell.lst [.str "factor"]] ++ [Cell.lst ([.str "chances", .str "chances", .str "chances", .str "chances"] ++ [.str "factor"])] = S ++ [Cell.lst [.str "chances"]] ++ [Cell.lst [.str "chances", .str "chances", .str "chances", .str "chances"]] ++ [Cell.lst [.str "factor"]] ++ [Cell.lst wordsL] := rfl
  rw [a5] at a4
  have w1 : (S ++ [Cell.lst [.str "chances"]] ++ [Cell.lst [.str "chances", .str "chances", .str "chances", .str "chances"]] ++ [Cell.lst [.str "factor"]] ++ [Cell.lst wordsL])[n]? = some (.lst wordsL) := app_get (app_get (app_get (app_get hW.at')))
  have a6 := ne_words w1 app_last
  have k1 : Keep S0 (S ++ [Cell.lst [.str "chances"]] ++ [Cell.lst [.str "chances", .str "chances", .str "chances", .str "chances"]] ++ [Cell.lst [.str "factor"]] ++ [Cell.lst wordsL]) := (((hW.keep.trans (Keep.app _ _)).trans (Keep.app _ _)).trans (Keep.app _ _)).trans (Keep.app _ _)
  obtain ⟨J1, b1⟩ := (hw (k + 6) true _ k1).now
  obtain ⟨J2, b2⟩ := (hl.good (k := k + 6) (g := true) (S := S ++ [Cell.lst [.str "chances"]] ++ [Cell.lst [.str "chances", .str "chances", .str "chances", .str "chances"]] ++ [Cell.lst [.str "factor"]] ++ [Cell.lst wordsL] ++ J1)).now
  refine ⟨[Cell.lst [.str "chances"]] ++ [Cell.lst [.str "chances", .str "chances", .str "chances", .str "chances"]] ++ [Cell.lst [.str "factor"]] ++ [Cell.lst wordsL] ++ J1 ++ J2, ?_⟩
  simp only [b_cons, b_nil, s_asg, s_par, s_sub, s_ret, s_expr, s_ife, s_whl, s_for, s_raise, s_pass, e_cst, e_glb0, e_glb1, e_glb2, e_glb3, e_var, e_tup, e_lst, e_dnew, e_bin, e_neg, e_not, e_and, e_or, e_cmp, e_chn, e_ife, e_idx, e_slc, e_rev, e_call, e_bi, e_isi, e_app, e_get2, e_lam, e_lc, l_nil, l_cons, o_none, o_some, i_seq, i_range, i_zip, bind_ok, bind_err, toF_ok, toF_err, fbind_next, fbind_ret, fbind_err, asB_ok, asI_ok, asB_err, truth_ok, truth_err, set_name, set_tup, set_nil, set_cons, fend_next, fend_ret, fend_err, List.length_cons, List.length_nil, List.length_set, List.map_cons, List.map_nil, List.cons_append, List.nil_append, List.getElem?_cons_zero, List.getElem?_cons_succ, List.set_cons_zero, List.set_cons_succ, if_true, if_false, Bool.false_eq_true, Bool.not_true, Bool.not_false, reduceIte, and_self, Nat.reduceAdd, Nat.reduceLT, Nat.reduceLeDiff, Nat.reduceSub, Nat.reduceEqDiff, List.replicate_succ, List.replicate_zero, cap, l15, alloc_ok, a2, a4, a6, b1, isnot_ff, b2, isnot_tt]
  simp only [List.append_assoc, List.cons_append, List.nil_append]
theorem lap_ok (hS : Hd m S) (hm : m < 10 ^ 4) : ∃ (S' : Store) (y3 y4 y5 y6 y7 y8 y9 y10 y11 y12 : Option Val), evB G LT WW (Q k) lapB [some sc, some (.obj 2), x2, x3, x4, x5, x6, x7, x8, x9, x10, x11, x12] S = .next [some sc, some (.obj 2), x2, y3, y4, y5, y6, y7, y8, y9, y10, y11, y12] S' ∧ Hd (m + 100) S' := by
  obtain ⟨S1, n3, L, e1, a1, a2, a3, a4, a5, a6, a7⟩ := l1_ok (k := k) (sc := sc) (x2 := x2) (x3 := x3) (x4 := x4) (x5 := x5) (x6 := x6) (x7 := x7) (x8 := x8) (x9 := x9) (x10 := x10) (x11 := x11) (x12 := x12) hS (by omega)
  obtain ⟨S2, l, r, e2, hl, hr, b1, b2⟩ := l2_ok (k := k) (sc := sc) (x2 := x2) (x4 := x4) (x5 := x5) (x6 := x6) (x7 := x7) (x8 := x8) (x9 := x9) (x10 := x10) (x11 := x11) (x12 := x12) a7 (by omega) a1 a2 a3 a4 a5
  obtain ⟨J3, n4, e3, c1, c2⟩ := l3_ok (k := k) (S := S2) (sc := sc) (x2 := x2) (x3 := some (.obj n3)) (x4 := x4) (x5 := x5) (x6 := x6) (x7 := x7) (x8 := x8) (x9 := x9) (x12 := x12) hl hr
  obtain ⟨J4, e4⟩ := l4_ok (k := k) (S := S2 ++ J3) (sc := sc) (x2 := x2) (x3 := some (.obj n3)) (x5 := x5) (x6 := x6) (x7 := x7) (x8 := x8) (x9 := x9) (x12 := x12) hl hr c1
  have d4 : (S2 ++ J3 ++ J4)[n4]? = some (.lst (dueL l r)) := app_get c1
  obtain ⟨J5, n5, e5, f1, f2⟩ := l5_ok (k := k) (S := S2 ++ J3 ++ J4) (sc := sc) (x2 := x2) (x3 := some (.obj n3)) (x5 := x5) (x6 := x6) (x7 := x7) (x8 := x8) (x9 := x9) (x10 := some (chV (dl l))) (x11 := some (chV (dl r))) (x12 := x12) d4
  have d5 : (S2 ++ J3 ++ J4 ++ J5)[n4]? = some (.lst (dueL l r)) := app_get d4
  obtain ⟨J6, y6, y12, e6⟩ := l6_ok (k := k) (S := S2 ++ J3 ++ J4 ++ J5) (sc := sc) (x2 := x2) (x3 := some (.obj n3)) (x6 := x6) (x7 := x7) (x8 := x8) (x9 := x9) (x12 := x12) hl hr d5 f1
  have d6 : (S2 ++ J3 ++ J4 ++ J5 ++ J6)[n4]? = some (.lst (dueL l r)) := app_get d5
  obtain ⟨J7, e7⟩ := l7_ok (k := k) (S := S2 ++ J3 ++ J4 ++ J5 ++ J6) (sc := sc) (x2 := x2) (x3 := some (.obj n3)) (x5 := some (.obj n5)) (x6 := y6) (x7 := x7) (x8 := x8) (x9 := x9) (x12 := y12) hl hr d6
  have h7 : Hd (m + 70) (S2 ++ J3 ++ J4 ++ J5 ++ J6 ++ J7) := (((((b2.app J3).app J4).app J5).app J6).app J7).mono (by omega)
  generalize S2 ++ J3 ++ J4 ++ J5 ++ J6 ++ J7 = S7 at e7 h7
  obtain ⟨S8, w, e8, hw, k8, h8⟩ := l8_ok (k := k) (sc := sc) (x2 := x2) (x3 := some (.obj n3)) (x4 := some (.obj n4)) (x5 := some (.obj n5)) (x6 := y6) (x7 := x7) (x8 := x8) (x9 := x9) (x11 := some (chV (dl r))) (x12 := y12) h7 (by omega) hl
  obtain ⟨S9, f, e9, hf, k9, h9⟩ := l9_ok (k := k) (sc := sc) (x2 := x2) (x3 := some (.obj n3)) (x4 := some (.obj n4)) (x5 := some (.obj n5)) (x6 := y6) (x7 := some w) (x8 := x8) (x9 := x9) (x10 := some (chV (dl l))) (x11 := some (chV (dl r))) (x12 := y12) h8 (by omega)
  have hw9 := hw.keep k9
  have h3 : 2 < S9.length := h9.len
  obtain ⟨J10, n9, e10, w10⟩ := l10_ok (k := k) (sc := sc) (r := r) (x2 := x2) (x3 := some (.obj n3)) (x4 := some (.obj n4)) (x5 := some (.obj n5)) (x6 := y6) (x8 := some f) (x9 := x9) (x10 := some (chV (dl l))) (x12 := y12) hw9 h9
  obtain ⟨S11, e11, w11⟩ := l11_ok (k := k) (sc := sc) (x2 := x2) (x3 := some (.obj n3)) (x4 := some (.obj n4)) (x5 := some (.obj n5)) (x6 := y6) (x8 := some f) (x11 := some (chV (dl r))) (x12 := y12) hl hw9 h3 w10
  obtain ⟨S12, e12, w12⟩ := l12_ok (k := k) (sc := sc) (x2 := x2) (x3 := some (.obj n3)) (x4 := some (.obj n4)) (x5 := some (.obj n5)) (x6 := y6) (x8 := some f) (x10 := some (chV (dl l))) (x11 := some (chV (dl r))) (x12 := y12) hw9 h3 w11
  obtain ⟨S13, e13, w13⟩ := l13_ok (k := k) (f := f) (sc := sc) (x2 := x2) (x3 := some (.obj n3)) (x4 := some (.obj n4)) (x5 := some (.obj n5)) (x6 := y6) (x11 := some (chV (dl r))) (x12 := y12) hl hw9 h3 w12
  obtain ⟨S14, e14, w14⟩ := l14_ok (k := k) (sc := sc) (x2 := x2) (x3 := some (.obj n3)) (x4 := some (.obj n4)) (x5 := some (.obj n5)) (x6 := y6) (x7 := some w) (x12 := y12) hl hr hf h3 w13
  obtain ⟨J15, e15⟩ := l15_ok (k := k) (sc := sc) (x2 := x2) (x3 := some (.obj n3)) (x4 := some (.obj n4)) (x5 := some (.obj n5)) (x6 := y6) (x8 := some f) (x11 := some (chV (dl r))) (x12 := y12) hl hw9 w14
  refine ⟨S14 ++ J15, some (.obj n3), some (.obj n4), some (.obj n5), y6, some w, some f, some (.obj n9), some (chV (dl l)), some (chV (dl r)), y12, ?_, (w14.hd.app J15).mono (by omega)⟩
  rw [lapB, b_cons, e1, fbind_next, b_cons, e2, fbind_next, b_cons, e3, fbind_next, b_cons, e4, fbind_next, b_cons, e5, fbind_next, b_cons, e6, fbind_next, b_cons, e7, fbind_next, b_cons, e8, fbind_next, b_cons, e9, fbind_next, b_cons, e10, fbind_next, b_cons, e11, fbind_next, b_cons, e12, fbind_next, b_cons, e13, fbind_next, b_cons, e14, fbind_next, b_cons, e15, fbind_next, b_nil]
end
def three (r : R Val) : Option (Bool × Cell × Cell × Cell) := match r with
  | .ok (.bl b) (x :: y :: z :: _) => some (b, x, y, z)
  | _ => none
theorem known (c0 c1 c2 : Cell) : three (CC 59 true 34 [] [c0, c1, c2]) = some (true, c0, c1, c2) := by
  kernel_rfl
theorem three_ok {r : R Val} {a b c : Cell} (h : three r = some (true, a, b, c)) : ∃ J, r = .ok (.bl true) ([a, b, c] ++ J) := by
  unfold three at h
  split at h
  · next b' x y z J =>
    injection h with h
    injection h with h1 h2
    injection h2 with h2 h3
    injection h3 with h3 h4
    subst h1
    subst h2
    subst h3
    subst h4
    exact ⟨J, rfl⟩
  · exact nomatch h
theorem says : LawSays := by
  intro ns hns
  obtain ⟨c0, c1, c2, e1, h1⟩ := hand_ok (k := 56) (g := true) ns hns
  obtain ⟨J, e2⟩ := three_ok (known c0 c1 c2)
  have h2 := h1.app J
  have hrun := for_run (q := Q 45) (t := .name 2) (b := lapB) (src := .rng 5) (S := [c0, c1, c2] ++ J) (e := [some (.rol (ns.map Val.int)), some (.obj 2), none, none, none, none, none, none, none, none, none, none, none]) (rngL 5)
    (fun rest e S' => ∃ (y2 y3 y4 y5 y6 y7 y8 y9 y10 y11 y12 : Option Val) (c : Nat), e = [some (.rol (ns.map Val.int)), some (.obj 2), y2, y3, y4, y5, y6, y7, y8, y9, y10, y11, y12] ∧ c + 100 * rest.length ≤ 500 ∧ Hd c S') (fun _ _ => False) rfl (fun _ _ _ _ i => at_rng 5 i)
    (fun v rest e S' ⟨y2, y3, y4, y5, y6, y7, y8, y9, y10, y11, y12, c, a, b, hh⟩ => by
      rw [List.length_cons] at b
      obtain ⟨S2, z3, z4, z5, z6, z7, z8, z9, z10, z11, z12, e3, h3⟩ := lap_ok (k := 45) (sc := .rol (ns.map Val.int)) (x2 := some v) (x3 := y3) (x4 := y4) (x5 := y5) (x6 := y6) (x7 := y7) (x8 := y8) (x9 := y9) (x10 := y10) (x11 := y11) (x12 := y12) hh (by omega)
      exact ⟨_, by rw [a]; rfl, .inl ⟨_, S2, e3, some v, z3, z4, z5, z6, z7, z8, z9, z10, z11, z12, c + 100, rfl, by omega, h3⟩⟩)
    ⟨none, none, none, none, none, none, none, none, none, none, none, 0, rfl, by rw [rngL_len]; omega, h2⟩
  rcases hrun with ⟨e', S', h3, y2, y3, y4, y5, y6, y7, y8, y9, y10, y11, y12, c, a, b, hh⟩ | ⟨_, _, _, h⟩
  · refine ⟨S', ?_⟩
    show CC (57 + 3) true 35 [.rol (ns.map Val.int)] [] = _
    rw [C_at (k := 57) (np := 1) (nn := 13) (body := lawB) rfl rfl]
    have hit : ∀ (e : Ev.Env) (S : Store), evI G LT lawIt ⟨CC (57 + 2) true, CC 57 false, true⟩ e S = .ok (.rng 5) S := fun e S => by
      unfold lawIt
      rw [i_range, e_cst, asI_ok, bind_ok]
      exact rng_ok (n := 5) (by decide)
    have htg : tgOk (.rng 5) (.name 2) = true := rfl
    have e1' : CC (57 + 2) true 19 [.rol (ns.map Val.int)] [] = .ok (.obj 2) [c0, c1, c2] := e1
    have e2' : CC (57 + 2) true 34 [] [c0, c1, c2] = .ok (.bl true) ([c0, c1, c2] ++ J) := e2
    generalize hS3 : [c0, c1, c2] ++ J = S3 at e2' h3
    generalize [c0, c1, c2] = S2 at e1' e2'
    subst a
    simp only [b_cons, b_nil, s_asg, s_par, s_sub, s_ret, s_expr, s_ife, s_whl, s_for, s_raise, s_pass, e_cst, e_glb0, e_glb1, e_glb2, e_glb3, e_var, e_tup, e_lst, e_dnew, e_bin, e_neg, e_not, e_and, e_or, e_cmp, e_chn, e_ife, e_idx, e_slc, e_rev, e_call, e_bi, e_isi, e_app, e_get2, e_lam, e_lc, l_nil, l_cons, o_none, o_some, i_seq, i_range, i_zip, bind_ok, bind_err, toF_ok, toF_err, fbind_next, fbind_ret, fbind_err, asB_ok, asI_ok, asB_err, truth_ok, truth_err, set_name, set_tup, set_nil, set_cons, fend_next, fend_ret, fend_err, List.length_cons, List.length_nil, List.length_set, List.map_cons, List.map_nil, List.cons_append, List.nil_append, List.getElem?_cons_zero, List.getElem?_cons_succ, List.set_cons_zero, List.set_cons_succ, if_true, if_false, Bool.false_eq_true, Bool.not_true, Bool.not_false, reduceIte, and_self, Nat.reduceAdd, Nat.reduceLT, Nat.reduceLeDiff, Nat.reduceSub, Nat.reduceEqDiff, List.replicate_succ, List.replicate_zero, cap, lawB, e1', e2', hit, htg, Bool.true_eq_false, h3]
  · exact h.elim
end
end Law
end

section
set_option Elab.async false
set_option linter.all false
set_option pp.maxSteps 400
set_option maxRecDepth 100000
set_option maxHeartbeats 8000000
namespace Law
open PySem PySem.Spec PyProof.Rows L2 LamX Ev
/-- the facts of a def, as the written part has them -/
theorem defK_mk {K : PySem.W.Frag} {h : Heap} {mg : Str → Option Value} {x : Str} {st : Stmt} {N ps : List Str} {fa : Addr} {oc kV dc pm cd ct : Value} {od an : Option Addr} {sl : Array (Option Value)} (KX : K.In h) (G : h.Ns mainGlobals mg)
    (a : PySem.W.nsIn K mainGlobals x = some (some (.ref fa))) (l : K.lookup fa = some ⟨oc, od, .func (PySem.W.fnOf x x (defArgs st) (defBody st) (defScope st) .none kV dc pm an cd ct), sl⟩) (c : PySem.W.codeIn K cd x = true) (k : PySem.W.keepIn K (.ref fa) = true)
    (s : C8.scC N ps (defScope st) = true) (b : ∀ (kV doc pm : Value) (an : Option Addr) (cdv ct : Value) (us : List Value), us.length = ps.length → bindArgs (PySem.W.fnOf x x (defArgs st) (defBody st) (defScope st) .none kV doc pm an cdv ct) ⟨us, []⟩ = pure (ps.zip us)) : DefK K mg x st N ps fa cd :=
  ⟨⟨oc, od, an, kV, dc, pm, ct, sl, .all (b kV dc pm an cd ct), l⟩, PySem.W.mg_of KX G a, k, c, C8.fnScope_by s⟩
theorem s_is_integer : C8.scC n_is_integer p_is_integer (defScope (topS 8)) = true := by kernel_rfl
theorem a_is_integer (kV doc pm : Value) (an : Option Addr) (cdv ct : Value) (us : List Value) (h : us.length = p_is_integer.length) : bindArgs (PySem.W.fnOf "is_integer" "is_integer" (defArgs (topS 8)) (defBody (topS 8)) (defScope (topS 8)) .none kV doc pm an cdv ct) ⟨us, []⟩ = pure (p_is_integer.zip us) := match us, h with | [_], _ => rfl
theorem s_common : C8.scC n_common p_common (defScope (topS 9)) = true := by kernel_rfl
theorem a_common (kV doc pm : Value) (an : Option Addr) (cdv ct : Value) (us : List Value) (h : us.length = p_common.length) : bindArgs (PySem.W.fnOf "common" "common" (defArgs (topS 9)) (defBody (topS 9)) (defScope (topS 9)) .none kV doc pm an cdv ct) ⟨us, []⟩ = pure (p_common.zip us) := match us, h with | [_, _], _ => rfl
theorem s_is_fraction : C8.scC n_is_fraction p_is_fraction (defScope (topS 10)) = true := by kernel_rfl
theorem a_is_fraction (kV doc pm : Value) (an : Option Addr) (cdv ct : Value) (us : List Value) (h : us.length = p_is_fraction.length) : bindArgs (PySem.W.fnOf "is_fraction" "is_fraction" (defArgs (topS 10)) (defBody (topS 10)) (defScope (topS 10)) .none kV doc pm an cdv ct) ⟨us, []⟩ = pure (p_is_fraction.zip us) := match us, h with | [_], _ => rfl
theorem s_is_chance : C8.scC n_is_chance p_is_chance (defScope (topS 11)) = true := by kernel_rfl
theorem a_is_chance (kV doc pm : Value) (an : Option Addr) (cdv ct : Value) (us : List Value) (h : us.length = p_is_chance.length) : bindArgs (PySem.W.fnOf "is_chance" "is_chance" (defArgs (topS 11)) (defBody (topS 11)) (defScope (topS 11)) .none kV doc pm an cdv ct) ⟨us, []⟩ = pure (p_is_chance.zip us) := match us, h with | [_], _ => rfl
theorem s_is_factor : C8.scC n_is_factor p_is_factor (defScope (topS 12)) = true := by kernel_rfl
theorem a_is_factor (kV doc pm : Value) (an : Option Addr) (cdv ct : Value) (us : List Value) (h : us.length = p_is_factor.length) : bindArgs (PySem.W.fnOf "is_factor" "is_factor" (defArgs (topS 12)) (defBody (topS 12)) (defScope (topS 12)) .none kV doc pm an cdv ct) ⟨us, []⟩ = pure (p_is_factor.zip us) := match us, h with | [_], _ => rfl
theorem s_made : C8.scC n_made p_made (defScope (topS 13)) = true := by kernel_rfl
theorem a_made (kV doc pm : Value) (an : Option Addr) (cdv ct : Value) (us : List Value) (h : us.length = p_made.length) : bindArgs (PySem.W.fnOf "made" "made" (defArgs (topS 13)) (defBody (topS 13)) (defScope (topS 13)) .none kV doc pm an cdv ct) ⟨us, []⟩ = pure (p_made.zip us) := match us, h with | [_, _], _ => rfl
theorem s_raw_plus : C8.scC n_raw_plus p_raw_plus (defScope (topS 14)) = true := by kernel_rfl
theorem a_raw_plus (kV doc pm : Value) (an : Option Addr) (cdv ct : Value) (us : List Value) (h : us.length = p_raw_plus.length) : bindArgs (PySem.W.fnOf "raw_plus" "raw_plus" (defArgs (topS 14)) (defBody (topS 14)) (defScope (topS 14)) .none kV doc pm an cdv ct) ⟨us, []⟩ = pure (p_raw_plus.zip us) := match us, h with | [_, _], _ => rfl
theorem s_raw_by : C8.scC n_raw_by p_raw_by (defScope (topS 15)) = true := by kernel_rfl
theorem a_raw_by (kV doc pm : Value) (an : Option Addr) (cdv ct : Value) (us : List Value) (h : us.length = p_raw_by.length) : bindArgs (PySem.W.fnOf "raw_by" "raw_by" (defArgs (topS 15)) (defBody (topS 15)) (defScope (topS 15)) .none kV doc pm an cdv ct) ⟨us, []⟩ = pure (p_raw_by.zip us) := match us, h with | [_, _], _ => rfl
theorem s_raw_at_most : C8.scC n_raw_at_most p_raw_at_most (defScope (topS 16)) = true := by kernel_rfl
theorem a_raw_at_most (kV doc pm : Value) (an : Option Addr) (cdv ct : Value) (us : List Value) (h : us.length = p_raw_at_most.length) : bindArgs (PySem.W.fnOf "raw_at_most" "raw_at_most" (defArgs (topS 16)) (defBody (topS 16)) (defScope (topS 16)) .none kV doc pm an cdv ct) ⟨us, []⟩ = pure (p_raw_at_most.zip us) := match us, h with | [_, _], _ => rfl
theorem s_is_out : C8.scC n_is_out p_is_out (defScope (topS 20)) = true := by kernel_rfl
theorem a_is_out (kV doc pm : Value) (an : Option Addr) (cdv ct : Value) (us : List Value) (h : us.length = p_is_out.length) : bindArgs (PySem.W.fnOf "is_out" "is_out" (defArgs (topS 20)) (defBody (topS 20)) (defScope (topS 20)) .none kV doc pm an cdv ct) ⟨us, []⟩ = pure (p_is_out.zip us) := match us, h with | [_], _ => rfl
theorem s_are_outs : C8.scC n_are_outs p_are_outs (defScope (topS 21)) = true := by kernel_rfl
theorem a_are_outs (kV doc pm : Value) (an : Option Addr) (cdv ct : Value) (us : List Value) (h : us.length = p_are_outs.length) : bindArgs (PySem.W.fnOf "are_outs" "are_outs" (defArgs (topS 21)) (defBody (topS 21)) (defScope (topS 21)) .none kV doc pm an cdv ct) ⟨us, []⟩ = pure (p_are_outs.zip us) := match us, h with | [_], _ => rfl
theorem s_are_chances : C8.scC n_are_chances p_are_chances (defScope (topS 22)) = true := by kernel_rfl
theorem a_are_chances (kV doc pm : Value) (an : Option Addr) (cdv ct : Value) (us : List Value) (h : us.length = p_are_chances.length) : bindArgs (PySem.W.fnOf "are_chances" "are_chances" (defArgs (topS 22)) (defBody (topS 22)) (defScope (topS 22)) .none kV doc pm an cdv ct) ⟨us, []⟩ = pure (p_are_chances.zip us) := match us, h with | [_], _ => rfl
theorem s_check_chances : C8.scC n_check_chances p_check_chances (defScope (topS 23)) = true := by kernel_rfl
theorem a_check_chances (kV doc pm : Value) (an : Option Addr) (cdv ct : Value) (us : List Value) (h : us.length = p_check_chances.length) : bindArgs (PySem.W.fnOf "check_chances" "check_chances" (defArgs (topS 23)) (defBody (topS 23)) (defScope (topS 23)) .none kV doc pm an cdv ct) ⟨us, []⟩ = pure (p_check_chances.zip us) := match us, h with | [_, _], _ => rfl
theorem s_raw_odds : C8.scC n_raw_odds p_raw_odds (defScope (topS 24)) = true := by kernel_rfl
theorem a_raw_odds (kV doc pm : Value) (an : Option Addr) (cdv ct : Value) (us : List Value) (h : us.length = p_raw_odds.length) : bindArgs (PySem.W.fnOf "raw_odds" "raw_odds" (defArgs (topS 24)) (defBody (topS 24)) (defScope (topS 24)) .none kV doc pm an cdv ct) ⟨us, []⟩ = pure (p_raw_odds.zip us) := match us, h with | [_, _], _ => rfl
theorem s_odds : C8.scC n_odds p_odds (defScope (topS 25)) = true := by kernel_rfl
theorem a_odds (kV doc pm : Value) (an : Option Addr) (cdv ct : Value) (us : List Value) (h : us.length = p_odds.length) : bindArgs (PySem.W.fnOf "odds" "odds" (defArgs (topS 25)) (defBody (topS 25)) (defScope (topS 25)) .none kV doc pm an cdv ct) ⟨us, []⟩ = pure (p_odds.zip us) := match us, h with | [_, _], _ => rfl
theorem s_raw_both : C8.scC n_raw_both p_raw_both (defScope (topS 26)) = true := by kernel_rfl
theorem a_raw_both (kV doc pm : Value) (an : Option Addr) (cdv ct : Value) (us : List Value) (h : us.length = p_raw_both.length) : bindArgs (PySem.W.fnOf "raw_both" "raw_both" (defArgs (topS 26)) (defBody (topS 26)) (defScope (topS 26)) .none kV doc pm an cdv ct) ⟨us, []⟩ = pure (p_raw_both.zip us) := match us, h with | [_, _], _ => rfl
theorem s_odds_both : C8.scC n_odds_both p_odds_both (defScope (topS 27)) = true := by kernel_rfl
theorem a_odds_both (kV doc pm : Value) (an : Option Addr) (cdv ct : Value) (us : List Value) (h : us.length = p_odds_both.length) : bindArgs (PySem.W.fnOf "odds_both" "odds_both" (defArgs (topS 27)) (defBody (topS 27)) (defScope (topS 27)) .none kV doc pm an cdv ct) ⟨us, []⟩ = pure (p_odds_both.zip us) := match us, h with | [_, _], _ => rfl
theorem s_lot_chance : C8.scC n_lot_chance p_lot_chance (defScope (topS 28)) = true := by kernel_rfl
theorem a_lot_chance (kV doc pm : Value) (an : Option Addr) (cdv ct : Value) (us : List Value) (h : us.length = p_lot_chance.length) : bindArgs (PySem.W.fnOf "lot_chance" "lot_chance" (defArgs (topS 28)) (defBody (topS 28)) (defScope (topS 28)) .none kV doc pm an cdv ct) ⟨us, []⟩ = pure (p_lot_chance.zip us) := match us, h with | [_, _], _ => rfl
theorem s_is_within_odds : C8.scC n_is_within_odds p_is_within_odds (defScope (topS 29)) = true := by kernel_rfl
theorem a_is_within_odds (kV doc pm : Value) (an : Option Addr) (cdv ct : Value) (us : List Value) (h : us.length = p_is_within_odds.length) : bindArgs (PySem.W.fnOf "is_within_odds" "is_within_odds" (defArgs (topS 29)) (defBody (topS 29)) (defScope (topS 29)) .none kV doc pm an cdv ct) ⟨us, []⟩ = pure (p_is_within_odds.zip us) := match us, h with | [_, _, _], _ => rfl
theorem s__law_hand : C8.scC n__law_hand p__law_hand (defScope (topS 31)) = true := by kernel_rfl
theorem a__law_hand (kV doc pm : Value) (an : Option Addr) (cdv ct : Value) (us : List Value) (h : us.length = p__law_hand.length) : bindArgs (PySem.W.fnOf "_law_hand" "_law_hand" (defArgs (topS 31)) (defBody (topS 31)) (defScope (topS 31)) .none kV doc pm an cdv ct) ⟨us, []⟩ = pure (p__law_hand.zip us) := match us, h with | [_], _ => rfl
theorem s__law_draw : C8.scC n__law_draw p__law_draw (defScope (topS 32)) = true := by kernel_rfl
theorem a__law_draw (kV doc pm : Value) (an : Option Addr) (cdv ct : Value) (us : List Value) (h : us.length = p__law_draw.length) : bindArgs (PySem.W.fnOf "_law_draw" "_law_draw" (defArgs (topS 32)) (defBody (topS 32)) (defScope (topS 32)) .none kV doc pm an cdv ct) ⟨us, []⟩ = pure (p__law_draw.zip us) := match us, h with | [_, _], _ => rfl
theorem s__law_some : C8.scC n__law_some p__law_some (defScope (topS 33)) = true := by kernel_rfl
theorem a__law_some (kV doc pm : Value) (an : Option Addr) (cdv ct : Value) (us : List Value) (h : us.length = p__law_some.length) : bindArgs (PySem.W.fnOf "_law_some" "_law_some" (defArgs (topS 33)) (defBody (topS 33)) (defScope (topS 33)) .none kV doc pm an cdv ct) ⟨us, []⟩ = pure (p__law_some.zip us) := match us, h with | [_, _], _ => rfl
theorem s__law_is : C8.scC n__law_is p__law_is (defScope (topS 34)) = true := by kernel_rfl
theorem a__law_is (kV doc pm : Value) (an : Option Addr) (cdv ct : Value) (us : List Value) (h : us.length = p__law_is.length) : bindArgs (PySem.W.fnOf "_law_is" "_law_is" (defArgs (topS 34)) (defBody (topS 34)) (defScope (topS 34)) .none kV doc pm an cdv ct) ⟨us, []⟩ = pure (p__law_is.zip us) := match us, h with | [_, _], _ => rfl
theorem s__law_fr : C8.scC n__law_fr p__law_fr (defScope (topS 35)) = true := by kernel_rfl
theorem a__law_fr (kV doc pm : Value) (an : Option Addr) (cdv ct : Value) (us : List Value) (h : us.length = p__law_fr.length) : bindArgs (PySem.W.fnOf "_law_fr" "_law_fr" (defArgs (topS 35)) (defBody (topS 35)) (defScope (topS 35)) .none kV doc pm an cdv ct) ⟨us, []⟩ = pure (p__law_fr.zip us) := match us, h with | [_, _], _ => rfl
theorem s__law_times : C8.scC n__law_times p__law_times (defScope (topS 36)) = true := by kernel_rfl
theorem a__law_times (kV doc pm : Value) (an : Option Addr) (cdv ct : Value) (us : List Value) (h : us.length = p__law_times.length) : bindArgs (PySem.W.fnOf "_law_times" "_law_times" (defArgs (topS 36)) (defBody (topS 36)) (defScope (topS 36)) .none kV doc pm an cdv ct) ⟨us, []⟩ = pure (p__law_times.zip us) := match us, h with | [_, _], _ => rfl
theorem s__law_over : C8.scC n__law_over p__law_over (defScope (topS 37)) = true := by kernel_rfl
theorem a__law_over (kV doc pm : Value) (an : Option Addr) (cdv ct : Value) (us : List Value) (h : us.length = p__law_over.length) : bindArgs (PySem.W.fnOf "_law_over" "_law_over" (defArgs (topS 37)) (defBody (topS 37)) (defScope (topS 37)) .none kV doc pm an cdv ct) ⟨us, []⟩ = pure (p__law_over.zip us) := match us, h with | [_, _], _ => rfl
theorem s__law_less : C8.scC n__law_less p__law_less (defScope (topS 38)) = true := by kernel_rfl
theorem a__law_less (kV doc pm : Value) (an : Option Addr) (cdv ct : Value) (us : List Value) (h : us.length = p__law_less.length) : bindArgs (PySem.W.fnOf "_law_less" "_law_less" (defArgs (topS 38)) (defBody (topS 38)) (defScope (topS 38)) .none kV doc pm an cdv ct) ⟨us, []⟩ = pure (p__law_less.zip us) := match us, h with | [_, _], _ => rfl
theorem s__law_odds : C8.scC n__law_odds p__law_odds (defScope (topS 39)) = true := by kernel_rfl
theorem a__law_odds (kV doc pm : Value) (an : Option Addr) (cdv ct : Value) (us : List Value) (h : us.length = p__law_odds.length) : bindArgs (PySem.W.fnOf "_law_odds" "_law_odds" (defArgs (topS 39)) (defBody (topS 39)) (defScope (topS 39)) .none kV doc pm an cdv ct) ⟨us, []⟩ = pure (p__law_odds.zip us) := match us, h with | [_, _], _ => rfl
theorem s__law_both_odds : C8.scC n__law_both_odds p__law_both_odds (defScope (topS 40)) = true := by kernel_rfl
theorem a__law_both_odds (kV doc pm : Value) (an : Option Addr) (cdv ct : Value) (us : List Value) (h : us.length = p__law_both_odds.length) : bindArgs (PySem.W.fnOf "_law_both_odds" "_law_both_odds" (defArgs (topS 40)) (defBody (topS 40)) (defScope (topS 40)) .none kV doc pm an cdv ct) ⟨us, []⟩ = pure (p__law_both_odds.zip us) := match us, h with | [_, _], _ => rfl
theorem s__law_pool : C8.scC n__law_pool p__law_pool (defScope (topS 41)) = true := by kernel_rfl
theorem a__law_pool (kV doc pm : Value) (an : Option Addr) (cdv ct : Value) (us : List Value) (h : us.length = p__law_pool.length) : bindArgs (PySem.W.fnOf "_law_pool" "_law_pool" (defArgs (topS 41)) (defBody (topS 41)) (defScope (topS 41)) .none kV doc pm an cdv ct) ⟨us, []⟩ = pure (p__law_pool.zip us) := match us, h with | [_], _ => rfl
theorem s__law_weighed : C8.scC n__law_weighed p__law_weighed (defScope (topS 42)) = true := by kernel_rfl
theorem a__law_weighed (kV doc pm : Value) (an : Option Addr) (cdv ct : Value) (us : List Value) (h : us.length = p__law_weighed.length) : bindArgs (PySem.W.fnOf "_law_weighed" "_law_weighed" (defArgs (topS 42)) (defBody (topS 42)) (defScope (topS 42)) .none kV doc pm an cdv ct) ⟨us, []⟩ = pure (p__law_weighed.zip us) := match us, h with | [_, _], _ => rfl
theorem s__law_lacking : C8.scC n__law_lacking p__law_lacking (defScope (topS 43)) = true := by kernel_rfl
theorem a__law_lacking (kV doc pm : Value) (an : Option Addr) (cdv ct : Value) (us : List Value) (h : us.length = p__law_lacking.length) : bindArgs (PySem.W.fnOf "_law_lacking" "_law_lacking" (defArgs (topS 43)) (defBody (topS 43)) (defScope (topS 43)) .none kV doc pm an cdv ct) ⟨us, []⟩ = pure (p__law_lacking.zip us) := match us, h with | [_, _], _ => rfl
theorem s__law_bent : C8.scC n__law_bent p__law_bent (defScope (topS 45)) = true := by kernel_rfl
theorem a__law_bent (kV doc pm : Value) (an : Option Addr) (cdv ct : Value) (us : List Value) (h : us.length = p__law_bent.length) : bindArgs (PySem.W.fnOf "_law_bent" "_law_bent" (defArgs (topS 45)) (defBody (topS 45)) (defScope (topS 45)) .none kV doc pm an cdv ct) ⟨us, []⟩ = pure (p__law_bent.zip us) := match us, h with | [_, _], _ => rfl
theorem s__law_are_lots_right : C8.scC n__law_are_lots_right p__law_are_lots_right (defScope (topS 46)) = true := by kernel_rfl
theorem a__law_are_lots_right (kV doc pm : Value) (an : Option Addr) (cdv ct : Value) (us : List Value) (h : us.length = p__law_are_lots_right.length) : bindArgs (PySem.W.fnOf "_law_are_lots_right" "_law_are_lots_right" (defArgs (topS 46)) (defBody (topS 46)) (defScope (topS 46)) .none kV doc pm an cdv ct) ⟨us, []⟩ = pure (p__law_are_lots_right.zip us) := match us, h with | [_, _, _, _], _ => rfl
theorem s__law_are_known_right : C8.scC n__law_are_known_right p__law_are_known_right (defScope (topS 47)) = true := by kernel_rfl
theorem a__law_are_known_right (kV doc pm : Value) (an : Option Addr) (cdv ct : Value) (us : List Value) (h : us.length = p__law_are_known_right.length) : bindArgs (PySem.W.fnOf "_law_are_known_right" "_law_are_known_right" (defArgs (topS 47)) (defBody (topS 47)) (defScope (topS 47)) .none kV doc pm an cdv ct) ⟨us, []⟩ = pure (p__law_are_known_right.zip us) := match us, h with | [], _ => rfl
theorem s_law : C8.scC n_law p_law (defScope (topS 48)) = true := by kernel_rfl
theorem a_law (kV doc pm : Value) (an : Option Addr) (cdv ct : Value) (us : List Value) (h : us.length = p_law.length) : bindArgs (PySem.W.fnOf "law" "law" (defArgs (topS 48)) (defBody (topS 48)) (defScope (topS 48)) .none kV doc pm an cdv ct) ⟨us, []⟩ = pure (p_law.zip us) := match us, h with | [_], _ => rfl
inductive F2 (R : Str → FnIR → Prop) : List Str → List FnIR → Prop
  | nil : F2 R [] []
  | cons {x : Str} {d : FnIR} {xs : List Str} {ds : List FnIR} (h : R x d) (t : F2 R xs ds) : F2 R (x :: xs) (d :: ds)
theorem F2.at {R : Str → FnIR → Prop} : ∀ {xs : List Str} {ds : List FnIR}, F2 R xs ds → ∀ (i : Nat) (x : Str), xs[i]? = some x → ∃ d, ds[i]? = some d ∧ R x d
  | _, _, .nil, _, _, h => by cases h
  | _, _, .cons r t, 0, _, h => by cases h; exact ⟨_, rfl, r⟩
  | _, _, .cons r t, i + 1, x, h => F2.at t i x h
end Law
end

section
set_option Elab.async false
set_option linter.all false
set_option pp.maxSteps 400
set_option maxRecDepth 100000
set_option maxHeartbeats 8000000
namespace Law
open PySem PySem.Spec PyProof.Rows L2 LamX Ev
def cvA (c0 c1 c2 c3 : Addr) : Nat → Value
  | 0 => .ref c0
  | 1 => .ref c1
  | 2 => .ref c2
  | _ => .ref c3
def DD (c0 c1 c2 c3 : Addr) : Dt := ⟨G, cvA c0 c1 c2 c3, fnsN, glbN, clsN⟩
abbrev bmV : List Value := [.type "ValueError", .type "Exception", .type "BaseException", .type "object"]
/-- an error class as the written part has it -/
structure ErrC (K : PySem.W.Frag) (mg : Str → Option Value) (x : Str) (c c0 c1 c3 : Addr) (p q : Bool) : Prop where
  mgf : mg x = some (.ref c)
  exc : PySem.W.excIn K c bmV "ValueError.__new__" = true
  kp : PySem.W.keepIn K (.ref c) = true
  sub : PySem.W.subIn K (.ref c) (.type "BaseException") = some true
  ty : PySem.W.typeIn K (.ref c) = some (.type "type")
  cc : ExcC K c
  exm : PySem.W.exmOne K (.ref c) (.ref c0) = some true
  ka : PySem.W.kitOne K (.ref c) (.ref c1) = some p
  kb : PySem.W.kitOne K (.ref c) (.ref c3) = some q
theorem errC_mk {K : PySem.W.Frag} {h : Heap} {mg : Str → Option Value} {x : Str} {c c0 c1 c3 : Addr} {p q : Bool} (KX : K.In h) (Gm : h.Ns mainGlobals mg) (a : PySem.W.nsIn K mainGlobals x = some (some (.ref c)))
    (e : PySem.W.excIn K c bmV "ValueError.__new__" = true) (k : PySem.W.keepIn K (.ref c) = true) (s : PySem.W.subIn K (.ref c) (.type "BaseException") = some true) (t : PySem.W.typeIn K (.ref c) = some (.type "type"))
    (h1 : PySem.W.findIn K (.ref c) "__getattribute__" = some (some (.builtin "BaseException.__getattribute__"))) (h2 : PySem.W.findIn K (.ref c) "__getattr__" = some none) (h3 : PySem.W.hasDictIn K c = true) (h4 : PySem.W.findIn K (.ref c) "__class__" = some (some (.builtin "object.__class__")))
    (h5 : PySem.W.specialIn K (.builtin "object.__class__") "__get__" = some (some (.builtin "getset_descriptor.__get__"))) (h6 : PySem.W.takesIn K (.builtin "object.__class__") = some true) (h7 : PySem.W.mroIn K c (.type "object") = some true)
    (m : PySem.W.exmOne K (.ref c) (.ref c0) = some true) (ka : PySem.W.kitOne K (.ref c) (.ref c1) = some p) (kb : PySem.W.kitOne K (.ref c) (.ref c3) = some q) : ErrC K mg x c c0 c1 c3 p q :=
  ⟨PySem.W.mg_of KX Gm a, e, k, s, t, ⟨h1, h2, s, h3, h4, h5, h6, h7⟩, m, ka, kb⟩
theorem codeHd_mk {K : PySem.W.Frag} {h : Heap} {c T : Addr} {dd : Option Addr} {us : Array Value} {sl : Array (Option Value)} {file text : Str} {tf tg tt : Tok} {flags tx : Int} {inF : Bool} (KX : K.In h) (l : K.lookup c = some ⟨.type "code", dd, .fields us, sl⟩) (h11 : us[11]? = some (.ref T)) (g11 : us.getD 11 .none = .ref T)
    (g18 : us.getD 18 .none = .str file tf) (g7 : us.getD 7 .none = .int flags tg) (g9 : us.getD 9 .none = .bool inF) (g10 : us.getD 10 .none = .int tx tt) (ne : c ≠ T) : PySem.W.CodeHd h c T :=
  ⟨_, us, file, tf, flags, tg, inF, tx, tt, KX _ _ l, rfl, rfl, h11, g11, g18, g7, g9, g10, ne⟩
def n_word : List Str := ["call", "error", "flags"]
abbrev sW : Stmt := topS 44
theorem s_word : C8.scC n_word ["call"] (defScope sW) = true := by kernel_rfl
theorem a_word (kV doc pm : Value) (an : Option Addr) (cdv ct : Value) (us : List Value) (h : us.length = (["call"] : List Str).length) : bindArgs (PySem.W.fnOf "_law_word" "_law_word" (defArgs sW) (defBody sW) (defScope sW) .none kV doc pm an cdv ct) ⟨us, []⟩ = pure ((["call"] : List Str).zip us) := match us, h with | [_], _ => rfl
theorem ask_law (says : LawSays) {P : Program} {w : World} {K : PySem.W.Frag} {T : List (Addr × Str)} {cv : Nat → Value} {H : Hp} {a : Addr} {ns : List Int} (hn : ns.length ≤ 63) (hH : ∀ q ∈ T, H q.1 = some (.tbl #[])) (hL : LstS K H a (ns.map V.int)) :
    spOf P w K T cv (lev G LT WW fns LV true 35) [.ref a] H (fun v _ => v = .bl true) fun _ _ _ => False := by
  obtain ⟨S, hS⟩ := says ns hn
  have vr : ∀ l : List Int, VRs K [] H (l.map .int) (l.map V.int) := fun l => by
    induction l with
    | nil => exact .nil
    | cons i l ih => exact .cons (.int i) ih
  refine ⟨[], [], [.rol (ns.map .int)], ⟨rfl, fun n c h => by (cases h), fun i j x c c' h => by (cases h), fun q hq => .nil (hH q hq)⟩, .cons (.rol hL (vr ns)) .nil, ?_⟩
  rw [hS]
  intro μ' H' b _ _ r
  cases r
  rfl
theorem fin (says : LawSays) {l : PySem.W.OpenLaw} {w : World} {K : PySem.W.Frag} {mg : Str → Option Value} {h : Heap} {fa c T c0 c1 c2 c3 n0 n1 gw : Addr} {t0 t1 t2 t3 t4 t5 : Tok} {m0 m1 : Nat} {sl0 sl1 : Array (Option Value)} {cdw : Value}
    (hT : h.get? T = some { cls := .none, data := .fields #[] }) (nT : K.lookup T = none) (hC : PySem.W.CodeHd h c T)
    (e0 : ErrC K mg "OddsError" c0 c0 c1 c3 false false) (e1 : ErrC K mg "NoChances" c1 c0 c1 c3 true false) (e2 : ErrC K mg "NoOuts" c2 c0 c1 c3 false false) (e3 : ErrC K mg "NoFactor" c3 c0 c1 c3 false true)
    (g0 : mg "NOUGHT" = some (.ref n0)) (l0 : K.lookup n0 = some ⟨.type "tuple", none, .seq #[.int 0 t0, .int 1 t1] m0, sl0⟩) (g1 : mg "ONE" = some (.ref n1)) (l1 : K.lookup n1 = some ⟨.type "tuple", none, .seq #[.int 1 t2, .int 1 t3] m1, sl1⟩)
    (g2 : mg "ODDS" = some (.str "odds" t4)) (g3 : mg "ENDLESS" = some (.str "endless" t5)) (z : ∀ x ∈ bltNames, mg x = none)
    (dw : DefK K mg "_law_word" sW n_word ["call"] gw cdw)
    (d_is_integer : ∃ fa cd, DefK K mg "is_integer" (topS 8) n_is_integer p_is_integer fa cd)
    (d_common : ∃ fa cd, DefK K mg "common" (topS 9) n_common p_common fa cd)
    (d_is_fraction : ∃ fa cd, DefK K mg "is_fraction" (topS 10) n_is_fraction p_is_fraction fa cd)
    (d_is_chance : ∃ fa cd, DefK K mg "is_chance" (topS 11) n_is_chance p_is_chance fa cd)
    (d_is_factor : ∃ fa cd, DefK K mg "is_factor" (topS 12) n_is_factor p_is_factor fa cd)
    (d_made : ∃ fa cd, DefK K mg "made" (topS 13) n_made p_made fa cd)
    (d_raw_plus : ∃ fa cd, DefK K mg "raw_plus" (topS 14) n_raw_plus p_raw_plus fa cd)
    (d_raw_by : ∃ fa cd, DefK K mg "raw_by" (topS 15) n_raw_by p_raw_by fa cd)
    (d_raw_at_most : ∃ fa cd, DefK K mg "raw_at_most" (topS 16) n_raw_at_most p_raw_at_most fa cd)
    (d_is_out : ∃ fa cd, DefK K mg "is_out" (topS 20) n_is_out p_is_out fa cd)
    (d_are_outs : ∃ fa cd, DefK K mg "are_outs" (topS 21) n_are_outs p_are_outs fa cd)
    (d_are_chances : ∃ fa cd, DefK K mg "are_chances" (topS 22) n_are_chances p_are_chances fa cd)
    (d_check_chances : ∃ fa cd, DefK K mg "check_chances" (topS 23) n_check_chances p_check_chances fa cd)
    (d_raw_odds : ∃ fa cd, DefK K mg "raw_odds" (topS 24) n_raw_odds p_raw_odds fa cd)
    (d_odds : ∃ fa cd, DefK K mg "odds" (topS 25) n_odds p_odds fa cd)
    (d_raw_both : ∃ fa cd, DefK K mg "raw_both" (topS 26) n_raw_both p_raw_both fa cd)
    (d_odds_both : ∃ fa cd, DefK K mg "odds_both" (topS 27) n_odds_both p_odds_both fa cd)
    (d_lot_chance : ∃ fa cd, DefK K mg "lot_chance" (topS 28) n_lot_chance p_lot_chance fa cd)
    (d_is_within_odds : ∃ fa cd, DefK K mg "is_within_odds" (topS 29) n_is_within_odds p_is_within_odds fa cd)
    (d__law_hand : ∃ fa cd, DefK K mg "_law_hand" (topS 31) n__law_hand p__law_hand fa cd)
    (d__law_draw : ∃ fa cd, DefK K mg "_law_draw" (topS 32) n__law_draw p__law_draw fa cd)
    (d__law_some : ∃ fa cd, DefK K mg "_law_some" (topS 33) n__law_some p__law_some fa cd)
    (d__law_is : ∃ fa cd, DefK K mg "_law_is" (topS 34) n__law_is p__law_is fa cd)
    (d__law_fr : ∃ fa cd, DefK K mg "_law_fr" (topS 35) n__law_fr p__law_fr fa cd)
    (d__law_times : ∃ fa cd, DefK K mg "_law_times" (topS 36) n__law_times p__law_times fa cd)
    (d__law_over : ∃ fa cd, DefK K mg "_law_over" (topS 37) n__law_over p__law_over fa cd)
    (d__law_less : ∃ fa cd, DefK K mg "_law_less" (topS 38) n__law_less p__law_less fa cd)
    (d__law_odds : ∃ fa cd, DefK K mg "_law_odds" (topS 39) n__law_odds p__law_odds fa cd)
    (d__law_both_odds : ∃ fa cd, DefK K mg "_law_both_odds" (topS 40) n__law_both_odds p__law_both_odds fa cd)
    (d__law_pool : ∃ fa cd, DefK K mg "_law_pool" (topS 41) n__law_pool p__law_pool fa cd)
    (d__law_weighed : ∃ fa cd, DefK K mg "_law_weighed" (topS 42) n__law_weighed p__law_weighed fa cd)
    (d__law_lacking : ∃ fa cd, DefK K mg "_law_lacking" (topS 43) n__law_lacking p__law_lacking fa cd)
    (d__law_bent : ∃ fa cd, DefK K mg "_law_bent" (topS 45) n__law_bent p__law_bent fa cd)
    (d__law_are_lots_right : ∃ fa cd, DefK K mg "_law_are_lots_right" (topS 46) n__law_are_lots_right p__law_are_lots_right fa cd)
    (d__law_are_known_right : ∃ fa cd, DefK K mg "_law_are_known_right" (topS 47) n__law_are_known_right p__law_are_known_right fa cd)
    (d_law : DefK K mg "law" (topS 48) n_law p_law fa (.ref c)) :
    LawG l w K LV 63 "script" mg fa h := by
  have hmd : Md K mg (DD c0 c1 c2 c3) := by
    refine ⟨fun i x hx => ?_, z, fun i x hx => ?_⟩
    · have hx : glbN[i]? = some x := hx
      match i, hx with
      | 0, hx => cases hx; exact ⟨_, .ref n0, _, g0, rfl, rfl, fun μ H => .tup (xs := [.int 0, .int 1]) (.inr ⟨_, _, m0, l0, rfl, rfl, rfl, by show 2 ≤ sizeLine; rw [sizeLine_eq]; omega, .cons ⟨t0, rfl⟩ (.cons ⟨t1, rfl⟩ .nil)⟩) (.cons (.int 0) (.cons (.int 1) .nil))⟩
      | 1, hx => cases hx; exact ⟨_, .ref n1, _, g1, rfl, rfl, fun μ H => .tup (xs := [.int 1, .int 1]) (.inr ⟨_, _, m1, l1, rfl, rfl, rfl, by show 2 ≤ sizeLine; rw [sizeLine_eq]; omega, .cons ⟨t2, rfl⟩ (.cons ⟨t3, rfl⟩ .nil)⟩) (.cons (.int 1) (.cons (.int 1) .nil))⟩
      | 2, hx => cases hx; exact ⟨_, .str "odds", _, g2, ⟨t4, rfl⟩, rfl, fun μ H => .str _⟩
      | 3, hx => cases hx; exact ⟨_, .str "endless", _, g3, ⟨t5, rfl⟩, rfl, fun μ H => .str _⟩
    · have hx : clsN[i]? = some x := hx
      have go : ∀ (j : Nat) (x : Str) (c : Addr) (p q : Bool), ErrC K mg x c c0 c1 c3 p q → (DD c0 c1 c2 c3).cv j = .ref c → ∃ (C : Addr) (bm : List Value) (B n m : String), ExcBaseFacts B n m bm ∧ PySem.W.excIn K C bm n = true ∧ mg x = some (.ref C) ∧ PySem.W.keepIn K (.ref C) = true ∧
          PySem.W.subIn K (.ref C) (.type "BaseException") = some true ∧ PySem.W.typeIn K (.ref C) = some (.type "type") ∧ (DD c0 c1 c2 c3).cv j = .ref C := fun j x c p q e hc => ⟨_, _, _, _, _, PySem.F.excBase_ValueError, e.exc, e.mgf, e.kp, e.sub, e.ty, hc⟩
      match i, hx with
      | 0, hx => cases hx; exact go _ _ _ _ _ e0 rfl
      | 1, hx => cases hx; exact go _ _ _ _ _ e1 rfl
      | 2, hx => cases hx; exact go _ _ _ _ _ e2 rfl
      | 3, hx => cases hx; exact go _ _ _ _ _ e3 rfl
  have wc : WordC K mg n_word (defScope sW) "call" "error" "flags" "OddsError" "NoChances" "NoFactor" c0 c1 c3 := ⟨by decide, rfl, rfl, rfl, rfl, by kernel_rfl, by kernel_rfl, by kernel_rfl, by kernel_rfl, by kernel_rfl, by kernel_rfl, by decide, e0.mgf, e1.mgf, e3.mgf, z _ (by decide +kernel)⟩
  obtain ⟨oc, od, an, kV, doc, pm, ct, osl, hbw, lkw⟩ := dw.ex
  have tabsU : ∀ p ∈ [(T, (Str.ofString "law" ++ Str.ofString ".<locals>.") ++ Str.ofString "<lambda>")], p.1 = T → p.2 = (Str.ofString "law" ++ Str.ofString ".<locals>.") ++ Str.ofString "<lambda>" := fun p hp _ => by
    rw [List.mem_singleton.mp hp]
  have herr : ∀ (n : Nat) (S : Store), lt1 (.err n S) = .stuck ∨ ∃ (cc : Addr) (p q : Bool), cvA c0 c1 c2 c3 n = .ref cc ∧ PySem.W.exmOne K (.ref cc) (.ref c0) = some true ∧ ExcC K cc ∧ PySem.W.kitOne K (.ref cc) (.ref c1) = some p ∧ PySem.W.kitOne K (.ref cc) (.ref c3) = some q ∧ ¬ (p = true ∧ q = true) ∧ lt1 (.err n S) = .ok (.str (wordB p q)) S := fun n S => by
    match n with
    | 0 => exact .inr ⟨c0, _, _, rfl, e0.exm, e0.cc, e0.ka, e0.kb, by decide, rfl⟩
    | 1 => exact .inr ⟨c1, _, _, rfl, e1.exm, e1.cc, e1.ka, e1.kb, by decide, rfl⟩
    | 2 => exact .inr ⟨c2, _, _, rfl, e2.exm, e2.cc, e2.ka, e2.kb, by decide, rfl⟩
    | 3 => exact .inr ⟨c3, _, _, rfl, e3.exm, e3.cc, e3.ka, e3.kb, by decide, rfl⟩
    | n + 4 => exact .inl rfl
  have lamF : ∀ base : Heap, (∀ q ∈ [(c, T)], TabB base mg q.1 q.2) → ∀ (t : Nat) (y : Str), tksN[t]? = some y → ∀ (k : Nat) (A : Around) (outer : List PySem.Env) (s : Shared) (H : Hp) (E : XK), Room (k + 2) (A.deeper (envOfC "law" (defScope (topS 48)) s.heap.objs.size fa (.ref c))) →
      LamFact (cxOf (L2.CX l.prog w) l.prog w K mg base n_law "law" (defScope (topS 48)) fa (.ref c) A outer s H E) ⟨[(T, (Str.ofString "law" ++ Str.ofString ".<locals>.") ++ Str.ofString "<lambda>")], (DD c0 c1 c2 c3).cv, E⟩ k y (LT t) := fun base TB t y hy k A outer s H E hr => by
    match t, hy with
    | 0, hy =>
      cases hy
      exact lam_word (X := cxOf (L2.CX l.prog w) l.prog w K mg base n_law "law" (defScope (topS 48)) fa (.ref c) A outer s H E) (Y := ⟨[(T, (Str.ofString "law" ++ Str.ofString ".<locals>.") ++ Str.ofString "<lambda>")], cvA c0 c1 c2 c3, E⟩) (Ng := n_word) (a := "call") (er := "error") (fl := "flags") (e := "OddsError") (ca := "NoChances") (cb := "NoFactor") (sg := defScope sW) (pg := defArgs sW) (P := T) rfl rfl wc (by show (defScope (topS 48)).names.lookup _ = _; kernel_rfl) dw.mgf dw.kp (by decide) (by decide) lkw dw.code hbw dw.sc (TB (c, T) (List.mem_singleton.mpr rfl)) rfl (List.mem_singleton.mpr rfl) tabsU hr (fun _ _ => rfl) rfl herr
  have all : ∀ base : Heap, K.In base → (∀ q ∈ [(c, T)], TabB base mg q.1 q.2) → ∀ (i : Nat) (x : Str), (DD c0 c1 c2 c3).fns[i]? = some x → ∃ d, fns[i]? = some d ∧ DefT l.prog w K mg base (DD c0 c1 c2 c3) LT [(T, (Str.ofString "law" ++ Str.ofString ".<locals>.") ++ Str.ofString "<lambda>")] x d := fun base hKb TB => by
    have no : ∀ {x : Str} {st : Stmt} {N ps : List Str} {d : FnIR}, (∃ fa cd, DefK K mg x st N ps fa cd) → trB ⟨N, defScope st, fnsN, glbN, clsN, []⟩ 60 (defBody st) = some d.body → d.np = ps.length → d.nn = N.length → DefT l.prog w K mg base (DD c0 c1 c2 c3) LT [(T, (Str.ofString "law" ++ Str.ofString ".<locals>.") ++ Str.ofString "<lambda>")] x d :=
      fun ⟨fa, cd, dk⟩ ht h1 h2 => ⟨_, _, _, fa, cd, [], 60, dk, ht, h1, h2, fun t y hy => by cases hy⟩
    refine F2.at ?_
    have lawT : DefT l.prog w K mg base (DD c0 c1 c2 c3) LT [(T, (Str.ofString "law" ++ Str.ofString ".<locals>.") ++ Str.ofString "<lambda>")] "law" f_law := ⟨_, _, _, fa, .ref c, tksN, 60, d_law, t_law, rfl, rfl, lamF base TB⟩
    exact (.cons (no d_is_integer t_is_integer rfl rfl)
      (.cons (no d_common t_common rfl rfl)
      (.cons (no d_is_fraction t_is_fraction rfl rfl)
      (.cons (no d_is_chance t_is_chance rfl rfl)
      (.cons (no d_is_factor t_is_factor rfl rfl)
      (.cons (no d_made t_made rfl rfl)
      (.cons (no d_raw_plus t_raw_plus rfl rfl)
      (.cons (no d_raw_by t_raw_by rfl rfl)
      (.cons (no d_raw_at_most t_raw_at_most rfl rfl)
      (.cons (no d_is_out t_is_out rfl rfl)
      (.cons (no d_are_outs t_are_outs rfl rfl)
      (.cons (no d_are_chances t_are_chances rfl rfl)
      (.cons (no d_check_chances t_check_chances rfl rfl)
      (.cons (no d_raw_odds t_raw_odds rfl rfl)
      (.cons (no d_odds t_odds rfl rfl)
      (.cons (no d_raw_both t_raw_both rfl rfl)
      (.cons (no d_odds_both t_odds_both rfl rfl)
      (.cons (no d_lot_chance t_lot_chance rfl rfl)
      (.cons (no d_is_within_odds t_is_within_odds rfl rfl)
      (.cons (no d__law_hand t__law_hand rfl rfl)
      (.cons (no d__law_draw t__law_draw rfl rfl)
      (.cons (no d__law_some t__law_some rfl rfl)
      (.cons (no d__law_is t__law_is rfl rfl)
      (.cons (no d__law_fr t__law_fr rfl rfl)
      (.cons (no d__law_times t__law_times rfl rfl)
      (.cons (no d__law_over t__law_over rfl rfl)
      (.cons (no d__law_less t__law_less rfl rfl)
      (.cons (no d__law_odds t__law_odds rfl rfl)
      (.cons (no d__law_both_odds t__law_both_odds rfl rfl)
      (.cons (no d__law_pool t__law_pool rfl rfl)
      (.cons (no d__law_weighed t__law_weighed rfl rfl)
      (.cons (no d__law_lacking t__law_lacking rfl rfl)
      (.cons (no d__law_bent t__law_bent rfl rfl)
      (.cons (no d__law_are_lots_right t__law_are_lots_right rfl rfl)
      (.cons (no d__law_are_known_right t__law_are_known_right rfl rfl)
      (.cons (lawT) .nil))))))))))))))))))))))))))))))))))))
  obtain ⟨ocl, odl, anl, kVl, docl, pml, ctl, osll, hbl, lkl⟩ := d_law.ex
  refine ⟨_, [(c, T)], spOf l.prog w K [(T, (Str.ofString "law" ++ Str.ofString ".<locals>.") ++ Str.ofString "<lambda>")] (cvA c0 c1 c2 c3) (lev G LT WW fns LV true 35), fun q hq => by rw [List.mem_singleton.mp hq]; exact hT, fun q hq => by rw [List.mem_singleton.mp hq]; exact nT, fun q hq => by rw [List.mem_singleton.mp hq]; exact hC, fun s u => .of_eq (a_law kVl docl pml anl (.ref c) ctl [u] rfl), fun H a ns hn hH hL => ?_, fun base hKb _ TB => ?_⟩
  · exact ask_law says hn (fun q hq => by rw [List.mem_singleton.mp hq]; exact hH (c, T) (List.mem_singleton.mpr rfl)) hL
  · exact fn_one (D := DD c0 c1 c2 c3) (i := 35) rfl d_law lkl t_law rfl rfl (lamF base TB) hmd fun m _ g => fns_all (all base hKb TB) hmd m g
end Law
end

section
set_option Elab.async false
set_option linter.all false
set_option pp.maxSteps 400
set_option maxRecDepth 100000
set_option maxHeartbeats 8000000
namespace Law
open PySem PySem.Spec PyProof.Rows L2 LamX Ev
theorem room_LV : Room LV callerA := ⟨rfl, by decide, by decide⟩
theorem walkK {l : PySem.W.OpenLaw} {q : Program} {loose : List Str} {XP : (Str → Option Value) → Heap → Prop} {YP : World → Heap → Prop} {d : DefRec} {K : Params → PySem.W.Frag} (hn : l.most = some 63) (hdf : d.params.defaults = []) (hrec : ((recsOf q).any fun r => r.name == d.name) = true)
    (hY : ∀ (w : World) (h : Heap), YP w h → (K w.params).In h)
    (F : ∀ (w : World) (mg : Str → Option Value) (fa : Addr) (h : Heap), YP w h → (K w.params).In h → h.Ns mainGlobals mg → mg d.name = some (.ref fa) → OwnT (K w.params) fa h → LawG l w (K w.params) LV 63 "script" mg fa h) :
    PySem.W.WalkO q loose XP YP l.row.toRowW d [] (fun f vs => PySem.call f vs) :=
  walk_ofG (n := 63) (k := LV) (x := "script") hn (by decide) hdf room_LV hrec hY F
theorem with_d {R : Prop} {K : PySem.W.Frag} {h : Heap} {mg : Str → Option Value} {x : Str} {st : Stmt} {N ps : List Str} {fa : Addr} {oc kV dc pm cd ct : Value} {od an : Option Addr} {sl : Array (Option Value)} (KX : K.In h) (Gm : h.Ns mainGlobals mg)
    (a : PySem.W.nsIn K mainGlobals x = some (some (.ref fa))) (l : K.lookup fa = some ⟨oc, od, .func (PySem.W.fnOf x x (defArgs st) (defBody st) (defScope st) .none kV dc pm an cd ct), sl⟩) (c : PySem.W.codeIn K cd x = true) (k : PySem.W.keepIn K (.ref fa) = true)
    (s : C8.scC N ps (defScope st) = true) (b : ∀ (kV doc pm : Value) (an : Option Addr) (cdv ct : Value) (us : List Value), us.length = ps.length → bindArgs (PySem.W.fnOf x x (defArgs st) (defBody st) (defScope st) .none kV doc pm an cdv ct) ⟨us, []⟩ = pure (ps.zip us)) (r : DefK K mg x st N ps fa cd → R) : R :=
  r (defK_mk KX Gm a l c k s b)
theorem with_e {R : Prop} {K : PySem.W.Frag} {h : Heap} {mg : Str → Option Value} {x : Str} {c c0 c1 c3 : Addr} {p q : Bool} (_ : mg "OddsError" = some (.ref c0)) (_ : mg "NoChances" = some (.ref c1)) (_ : mg "NoFactor" = some (.ref c3)) (KX : K.In h) (Gm : h.Ns mainGlobals mg) (a : PySem.W.nsIn K mainGlobals x = some (some (.ref c)))
    (e : PySem.W.excIn K c bmV "ValueError.__new__" = true) (k : PySem.W.keepIn K (.ref c) = true) (s : PySem.W.subIn K (.ref c) (.type "BaseException") = some true) (t : PySem.W.typeIn K (.ref c) = some (.type "type"))
    (h1 : PySem.W.findIn K (.ref c) "__getattribute__" = some (some (.builtin "BaseException.__getattribute__"))) (h2 : PySem.W.findIn K (.ref c) "__getattr__" = some none) (h3 : PySem.W.hasDictIn K c = true) (h4 : PySem.W.findIn K (.ref c) "__class__" = some (some (.builtin "object.__class__")))
    (h5 : PySem.W.specialIn K (.builtin "object.__class__") "__get__" = some (some (.builtin "getset_descriptor.__get__"))) (h6 : PySem.W.takesIn K (.builtin "object.__class__") = some true) (h7 : PySem.W.mroIn K c (.type "object") = some true)
    (m : PySem.W.exmOne K (.ref c) (.ref c0) = some true) (ka : PySem.W.kitOne K (.ref c) (.ref c1) = some p) (kb : PySem.W.kitOne K (.ref c) (.ref c3) = some q) (r : ErrC K mg x c c0 c1 c3 p q → R) : R :=
  r (errC_mk KX Gm a e k s t h1 h2 h3 h4 h5 h6 h7 m ka kb)
theorem with_n {R : Prop} {K : PySem.W.Frag} {h : Heap} {mg : Str → Option Value} {x : Str} {v : Value} (KX : K.In h) (Gm : h.Ns mainGlobals mg) (a : PySem.W.nsIn K mainGlobals x = some (some v)) (r : mg x = some v → R) : R := r (PySem.W.mg_of KX Gm a)
theorem with_c {R : Prop} {K : PySem.W.Frag} {h : Heap} {mg : Str → Option Value} {x : Str} {a : Addr} {o : Obj} (KX : K.In h) (Gm : h.Ns mainGlobals mg) (n : PySem.W.nsIn K mainGlobals x = some (some (.ref a))) (l : K.lookup a = some o) (r : mg x = some (.ref a) → K.lookup a = some o → R) : R := r (PySem.W.mg_of KX Gm n) l
def zAll (K : PySem.W.Frag) : List Str → Bool
  | [] => true
  | x :: r => (match PySem.W.nsIn K mainGlobals x with | some none => true | _ => false) && zAll K r
theorem zAll_is {K : PySem.W.Frag} {h : Heap} {mg : Str → Option Value} (KX : K.In h) (Gm : h.Ns mainGlobals mg) : ∀ {l : List Str}, zAll K l = true → ∀ x ∈ l, mg x = none
  | [], _, _, hx => absurd hx (by simp)
  | y :: r, e, x, hx => by
    unfold zAll at e
    rw [Bool.and_eq_true] at e
    rcases List.mem_cons.mp hx with rfl | hx
    · have e1 := e.1
      split at e1
      · exact PySem.W.mg_none_of KX Gm (by assumption)
      · cases e1
    · exact zAll_is KX Gm e.2 x hx
end Law
open PySem PySem.W PyProof.Rows
set_option maxRecDepth 100000 in
set_option maxHeartbeats 0 in
theorem PySem.Challenge.cw_oddsheld_k21_whole_odds_where_outs_are_a_holds : PySem.Challenge.rw_oddsheld_k21_whole_odds_where_outs_are_a.Holds := by
  w_on; o_law; k_head; (case hw => w_witness2)
  k_fill
  refine Law.walkK (l := PySem.Challenge.rw_oddsheld_k21_whole_odds_where_outs_are_a) rfl rfl rfl (fun w h Y => PySem.W.km_in_of Y) ?F
  case F =>
    intro w mg fa h Y KX GM hfa own
    refine' Law.with_d (x := "is_integer") (st := Law.topS 8) (N := Law.n_is_integer) (ps := Law.p_is_integer) KX GM ?a ?l ?c ?k Law.s_is_integer Law.a_is_integer (fun d_is_integer => ?_); (case a => k_is); (case l => k_is); (case c => k_is); (case k => k_is)
    refine' Law.with_d (x := "common") (st := Law.topS 9) (N := Law.n_common) (ps := Law.p_common) KX GM ?a ?l ?c ?k Law.s_common Law.a_common (fun d_common => ?_); (case a => k_is); (case l => k_is); (case c => k_is); (case k => k_is)
    refine' Law.with_d (x := "is_fraction") (st := Law.topS 10) (N := Law.n_is_fraction) (ps := Law.p_is_fraction) KX GM ?a ?l ?c ?k Law.s_is_fraction Law.a_is_fraction (fun d_is_fraction => ?_); (case a => k_is); (case l => k_is); (case c => k_is); (case k => k_is)
    refine' Law.with_d (x := "is_chance") (st := Law.topS 11) (N := Law.n_is_chance) (ps := Law.p_is_chance) KX GM ?a ?l ?c ?k Law.s_is_chance Law.a_is_chance (fun d_is_chance => ?_); (case a => k_is); (case l => k_is); (case c => k_is); (case k => k_is)
    refine' Law.with_d (x := "is_factor") (st := Law.topS 12) (N := Law.n_is_factor) (ps := Law.p_is_factor) KX GM ?a ?l ?c ?k Law.s_is_factor Law.a_is_factor (fun d_is_factor => ?_); (case a => k_is); (case l => k_is); (case c => k_is); (case k => k_is)
    refine' Law.with_d (x := "made") (st := Law.topS 13) (N := Law.n_made) (ps := Law.p_made) KX GM ?a ?l ?c ?k Law.s_made Law.a_made (fun d_made => ?_); (case a => k_is); (case l => k_is); (case c => k_is); (case k => k_is)
    refine' Law.with_d (x := "raw_plus") (st := Law.topS 14) (N := Law.n_raw_plus) (ps := Law.p_raw_plus) KX GM ?a ?l ?c ?k Law.s_raw_plus Law.a_raw_plus (fun d_raw_plus => ?_); (case a => k_is); (case l => k_is); (case c => k_is); (case k => k_is)
    refine' Law.with_d (x := "raw_by") (st := Law.topS 15) (N := Law.n_raw_by) (ps := Law.p_raw_by) KX GM ?a ?l ?c ?k Law.s_raw_by Law.a_raw_by (fun d_raw_by => ?_); (case a => k_is); (case l => k_is); (case c => k_is); (case k => k_is)
    refine' Law.with_d (x := "raw_at_most") (st := Law.topS 16) (N := Law.n_raw_at_most) (ps := Law.p_raw_at_most) KX GM ?a ?l ?c ?k Law.s_raw_at_most Law.a_raw_at_most (fun d_raw_at_most => ?_); (case a => k_is); (case l => k_is); (case c => k_is); (case k => k_is)
    refine' Law.with_d (x := "is_out") (st := Law.topS 20) (N := Law.n_is_out) (ps := Law.p_is_out) KX GM ?a ?l ?c ?k Law.s_is_out Law.a_is_out (fun d_is_out => ?_); (case a => k_is); (case l => k_is); (case c => k_is); (case k => k_is)
    refine' Law.with_d (x := "are_outs") (st := Law.topS 21) (N := Law.n_are_outs) (ps := Law.p_are_outs) KX GM ?a ?l ?c ?k Law.s_are_outs Law.a_are_outs (fun d_are_outs => ?_); (case a => k_is); (case l => k_is); (case c => k_is); (case k => k_is)
    refine' Law.with_d (x := "are_chances") (st := Law.topS 22) (N := Law.n_are_chances) (ps := Law.p_are_chances) KX GM ?a ?l ?c ?k Law.s_are_chances Law.a_are_chances (fun d_are_chances => ?_); (case a => k_is); (case l => k_is); (case c => k_is); (case k => k_is)
    refine' Law.with_d (x := "check_chances") (st := Law.topS 23) (N := Law.n_check_chances) (ps := Law.p_check_chances) KX GM ?a ?l ?c ?k Law.s_check_chances Law.a_check_chances (fun d_check_chances => ?_); (case a => k_is); (case l => k_is); (case c => k_is); (case k => k_is)
    refine' Law.with_d (x := "raw_odds") (st := Law.topS 24) (N := Law.n_raw_odds) (ps := Law.p_raw_odds) KX GM ?a ?l ?c ?k Law.s_raw_odds Law.a_raw_odds (fun d_raw_odds => ?_); (case a => k_is); (case l => k_is); (case c => k_is); (case k => k_is)
    refine' Law.with_d (x := "odds") (st := Law.topS 25) (N := Law.n_odds) (ps := Law.p_odds) KX GM ?a ?l ?c ?k Law.s_odds Law.a_odds (fun d_odds => ?_); (case a => k_is); (case l => k_is); (case c => k_is); (case k => k_is)
    refine' Law.with_d (x := "raw_both") (st := Law.topS 26) (N := Law.n_raw_both) (ps := Law.p_raw_both) KX GM ?a ?l ?c ?k Law.s_raw_both Law.a_raw_both (fun d_raw_both => ?_); (case a => k_is); (case l => k_is); (case c => k_is); (case k => k_is)
    refine' Law.with_d (x := "odds_both") (st := Law.topS 27) (N := Law.n_odds_both) (ps := Law.p_odds_both) KX GM ?a ?l ?c ?k Law.s_odds_both Law.a_odds_both (fun d_odds_both => ?_); (case a => k_is); (case l => k_is); (case c => k_is); (case k => k_is)
    refine' Law.with_d (x := "lot_chance") (st := Law.topS 28) (N := Law.n_lot_chance) (ps := Law.p_lot_chance) KX GM ?a ?l ?c ?k Law.s_lot_chance Law.a_lot_chance (fun d_lot_chance => ?_); (case a => k_is); (case l => k_is); (case c => k_is); (case k => k_is)
    refine' Law.with_d (x := "is_within_odds") (st := Law.topS 29) (N := Law.n_is_within_odds) (ps := Law.p_is_within_odds) KX GM ?a ?l ?c ?k Law.s_is_within_odds Law.a_is_within_odds (fun d_is_within_odds => ?_); (case a => k_is); (case l => k_is); (case c => k_is); (case k => k_is)
    refine' Law.with_d (x := "_law_hand") (st := Law.topS 31) (N := Law.n__law_hand) (ps := Law.p__law_hand) KX GM ?a ?l ?c ?k Law.s__law_hand Law.a__law_hand (fun d__law_hand => ?_); (case a => k_is); (case l => k_is); (case c => k_is); (case k => k_is)
    refine' Law.with_d (x := "_law_draw") (st := Law.topS 32) (N := Law.n__law_draw) (ps := Law.p__law_draw) KX GM ?a ?l ?c ?k Law.s__law_draw Law.a__law_draw (fun d__law_draw => ?_); (case a => k_is); (case l => k_is); (case c => k_is); (case k => k_is)
    refine' Law.with_d (x := "_law_some") (st := Law.topS 33) (N := Law.n__law_some) (ps := Law.p__law_some) KX GM ?a ?l ?c ?k Law.s__law_some Law.a__law_some (fun d__law_some => ?_); (case a => k_is); (case l => k_is); (case c => k_is); (case k => k_is)
    refine' Law.with_d (x := "_law_is") (st := Law.topS 34) (N := Law.n__law_is) (ps := Law.p__law_is) KX GM ?a ?l ?c ?k Law.s__law_is Law.a__law_is (fun d__law_is => ?_); (case a => k_is); (case l => k_is); (case c => k_is); (case k => k_is)
    refine' Law.with_d (x := "_law_fr") (st := Law.topS 35) (N := Law.n__law_fr) (ps := Law.p__law_fr) KX GM ?a ?l ?c ?k Law.s__law_fr Law.a__law_fr (fun d__law_fr => ?_); (case a => k_is); (case l => k_is); (case c => k_is); (case k => k_is)
    refine' Law.with_d (x := "_law_times") (st := Law.topS 36) (N := Law.n__law_times) (ps := Law.p__law_times) KX GM ?a ?l ?c ?k Law.s__law_times Law.a__law_times (fun d__law_times => ?_); (case a => k_is); (case l => k_is); (case c => k_is); (case k => k_is)
    refine' Law.with_d (x := "_law_over") (st := Law.topS 37) (N := Law.n__law_over) (ps := Law.p__law_over) KX GM ?a ?l ?c ?k Law.s__law_over Law.a__law_over (fun d__law_over => ?_); (case a => k_is); (case l => k_is); (case c => k_is); (case k => k_is)
    refine' Law.with_d (x := "_law_less") (st := Law.topS 38) (N := Law.n__law_less) (ps := Law.p__law_less) KX GM ?a ?l ?c ?k Law.s__law_less Law.a__law_less (fun d__law_less => ?_); (case a => k_is); (case l => k_is); (case c => k_is); (case k => k_is)
    refine' Law.with_d (x := "_law_odds") (st := Law.topS 39) (N := Law.n__law_odds) (ps := Law.p__law_odds) KX GM ?a ?l ?c ?k Law.s__law_odds Law.a__law_odds (fun d__law_odds => ?_); (case a => k_is); (case l => k_is); (case c => k_is); (case k => k_is)
    refine' Law.with_d (x := "_law_both_odds") (st := Law.topS 40) (N := Law.n__law_both_odds) (ps := Law.p__law_both_odds) KX GM ?a ?l ?c ?k Law.s__law_both_odds Law.a__law_both_odds (fun d__law_both_odds => ?_); (case a => k_is); (case l => k_is); (case c => k_is); (case k => k_is)
    refine' Law.with_d (x := "_law_pool") (st := Law.topS 41) (N := Law.n__law_pool) (ps := Law.p__law_pool) KX GM ?a ?l ?c ?k Law.s__law_pool Law.a__law_pool (fun d__law_pool => ?_); (case a => k_is); (case l => k_is); (case c => k_is); (case k => k_is)
    refine' Law.with_d (x := "_law_weighed") (st := Law.topS 42) (N := Law.n__law_weighed) (ps := Law.p__law_weighed) KX GM ?a ?l ?c ?k Law.s__law_weighed Law.a__law_weighed (fun d__law_weighed => ?_); (case a => k_is); (case l => k_is); (case c => k_is); (case k => k_is)
    refine' Law.with_d (x := "_law_lacking") (st := Law.topS 43) (N := Law.n__law_lacking) (ps := Law.p__law_lacking) KX GM ?a ?l ?c ?k Law.s__law_lacking Law.a__law_lacking (fun d__law_lacking => ?_); (case a => k_is); (case l => k_is); (case c => k_is); (case k => k_is)
    refine' Law.with_d (x := "_law_bent") (st := Law.topS 45) (N := Law.n__law_bent) (ps := Law.p__law_bent) KX GM ?a ?l ?c ?k Law.s__law_bent Law.a__law_bent (fun d__law_bent => ?_); (case a => k_is); (case l => k_is); (case c => k_is); (case k => k_is)
    refine' Law.with_d (x := "_law_are_lots_right") (st := Law.topS 46) (N := Law.n__law_are_lots_right) (ps := Law.p__law_are_lots_right) KX GM ?a ?l ?c ?k Law.s__law_are_lots_right Law.a__law_are_lots_right (fun d__law_are_lots_right => ?_); (case a => k_is); (case l => k_is); (case c => k_is); (case k => k_is)
    refine' Law.with_d (x := "_law_are_known_right") (st := Law.topS 47) (N := Law.n__law_are_known_right) (ps := Law.p__law_are_known_right) KX GM ?a ?l ?c ?k Law.s__law_are_known_right Law.a__law_are_known_right (fun d__law_are_known_right => ?_); (case a => k_is); (case l => k_is); (case c => k_is); (case k => k_is)
    refine' Law.with_d (x := "law") (st := Law.topS 48) (N := Law.n_law) (ps := Law.p_law) KX GM ?a ?l ?c ?k Law.s_law Law.a_law (fun d_law => ?_); (case a => k_is); (case l => k_is); (case c => k_is); (case k => k_is)
    refine' Law.with_d (x := "_law_word") (st := Law.topS 44) (N := Law.n_word) (ps := (["call"] : List PySem.Str)) KX GM ?a ?l ?c ?k Law.s_word Law.a_word (fun dw => ?_); (case a => k_is); (case l => k_is); (case c => k_is); (case k => k_is)
    refine' Law.with_n (x := "OddsError") KX GM ?a (fun n_OddsError => ?_); (case a => k_is)
    refine' Law.with_n (x := "NoChances") KX GM ?a (fun n_NoChances => ?_); (case a => k_is)
    refine' Law.with_n (x := "NoFactor") KX GM ?a (fun n_NoFactor => ?_); (case a => k_is)
    refine' Law.with_e (x := "OddsError") n_OddsError n_NoChances n_NoFactor KX GM ?a ?e ?k ?s ?t ?h1 ?h2 ?h3 ?h4 ?h5 ?h6 ?h7 ?m ?ka ?kb (fun e0 => ?_); (case a => k_is); (case e => kernel_rfl); (case k => k_is); (case s => k_is); (case t => k_is); (case h1 => k_is); (case h2 => k_is); (case h3 => k_is); (case h4 => k_is); (case h5 => k_is); (case h6 => k_is); (case h7 => k_is); (case m => kernel_rfl); (case ka => exact (rfl : _ = some false)); (case kb => exact (rfl : _ = some false))
    refine' Law.with_e (x := "NoChances") n_OddsError n_NoChances n_NoFactor KX GM ?a ?e ?k ?s ?t ?h1 ?h2 ?h3 ?h4 ?h5 ?h6 ?h7 ?m ?ka ?kb (fun e1 => ?_); (case a => k_is); (case e => kernel_rfl); (case k => k_is); (case s => k_is); (case t => k_is); (case h1 => k_is); (case h2 => k_is); (case h3 => k_is); (case h4 => k_is); (case h5 => k_is); (case h6 => k_is); (case h7 => k_is); (case m => kernel_rfl); (case ka => exact (rfl : _ = some true)); (case kb => exact (rfl : _ = some false))
    refine' Law.with_e (x := "NoOuts") n_OddsError n_NoChances n_NoFactor KX GM ?a ?e ?k ?s ?t ?h1 ?h2 ?h3 ?h4 ?h5 ?h6 ?h7 ?m ?ka ?kb (fun e2 => ?_); (case a => k_is); (case e => kernel_rfl); (case k => k_is); (case s => k_is); (case t => k_is); (case h1 => k_is); (case h2 => k_is); (case h3 => k_is); (case h4 => k_is); (case h5 => k_is); (case h6 => k_is); (case h7 => k_is); (case m => kernel_rfl); (case ka => exact (rfl : _ = some false)); (case kb => exact (rfl : _ = some false))
    refine' Law.with_e (x := "NoFactor") n_OddsError n_NoChances n_NoFactor KX GM ?a ?e ?k ?s ?t ?h1 ?h2 ?h3 ?h4 ?h5 ?h6 ?h7 ?m ?ka ?kb (fun e3 => ?_); (case a => k_is); (case e => kernel_rfl); (case k => k_is); (case s => k_is); (case t => k_is); (case h1 => k_is); (case h2 => k_is); (case h3 => k_is); (case h4 => k_is); (case h5 => k_is); (case h6 => k_is); (case h7 => k_is); (case m => kernel_rfl); (case ka => exact (rfl : _ = some false)); (case kb => exact (rfl : _ = some true))
    refine' Law.with_c (x := "NOUGHT") KX GM ?a ?l (fun g_NOUGHT l_NOUGHT => ?_); (case a => k_is); (case l => k_is)
    refine' Law.with_c (x := "ONE") KX GM ?a ?l (fun g_ONE l_ONE => ?_); (case a => k_is); (case l => k_is)
    refine' Law.with_n (x := "ODDS") KX GM ?a (fun g_ODDS => ?_); (case a => k_is)
    refine' Law.with_n (x := "ENDLESS") KX GM ?a (fun g_ENDLESS => ?_); (case a => k_is)
    have hT := PySem.W.km_tabs_of Y _ List.mem_cons_self
    have eq := hfa.symm.trans d_law.mgf
    cases eq
    exact Law.fin Law.says hT (by kernel_rfl) (PySem.W.codeHd_of_K KX (by kernel_rfl)) e0 e1 e2 e3 g_NOUGHT l_NOUGHT g_ONE l_ONE g_ODDS g_ENDLESS (Law.zAll_is KX GM (by kernel_rfl)) dw ⟨_, _, d_is_integer⟩ ⟨_, _, d_common⟩ ⟨_, _, d_is_fraction⟩ ⟨_, _, d_is_chance⟩ ⟨_, _, d_is_factor⟩ ⟨_, _, d_made⟩ ⟨_, _, d_raw_plus⟩ ⟨_, _, d_raw_by⟩ ⟨_, _, d_raw_at_most⟩ ⟨_, _, d_is_out⟩ ⟨_, _, d_are_outs⟩ ⟨_, _, d_are_chances⟩ ⟨_, _, d_check_chances⟩ ⟨_, _, d_raw_odds⟩ ⟨_, _, d_odds⟩ ⟨_, _, d_raw_both⟩ ⟨_, _, d_odds_both⟩ ⟨_, _, d_lot_chance⟩ ⟨_, _, d_is_within_odds⟩ ⟨_, _, d__law_hand⟩ ⟨_, _, d__law_draw⟩ ⟨_, _, d__law_some⟩ ⟨_, _, d__law_is⟩ ⟨_, _, d__law_fr⟩ ⟨_, _, d__law_times⟩ ⟨_, _, d__law_over⟩ ⟨_, _, d__law_less⟩ ⟨_, _, d__law_odds⟩ ⟨_, _, d__law_both_odds⟩ ⟨_, _, d__law_pool⟩ ⟨_, _, d__law_weighed⟩ ⟨_, _, d__law_lacking⟩ ⟨_, _, d__law_bent⟩ ⟨_, _, d__law_are_lots_right⟩ ⟨_, _, d__law_are_known_right⟩ d_law
end
